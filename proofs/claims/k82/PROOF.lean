import PyProof.Rows.All
import Wide.All
import OpenK.AllK
import Wide.FinOn
import HandS.ForMost
import HandS.Exc
import HandS.ExcOwn
import HandS.WordsExc
import HandS.TupAny
import HandS.TupMul
import HandS.Wide
import HandS.Style
import KE.DataEq
import KE.DataAny
import KE.DataIsa
import KE.DataFind
import KE.DataMinMax
import KE.LtData
import KE.KRevSl
import HandS.More
import HandS.Defaults
import KE.GoesEnum
import HandS.Iter
import KE.KTupSum
import PyProof.ReprRoads
import KE.KeyNested
import KE.KDictKeyed
import HandS.DictComp
import HandS.TupLen
import PyProof.EnumMake
import KE.GoesMore
import HandS.Ends
import HandS.HeadEnd
import HandS.Words
import HandS.Head1
import KE.GoesZip
import KE.KDictZip
import HandS.ExcValue
import KE.KStateDown
import Lean
import HandS.Base
import HandS.Call
import HandS.Head0
import HandS.Head2
import HandS.HeadHook1
import HandS.HeadHook2
import PySem.Challenge.RW_twosquare_k82_whole_heaps_and_paths
set_option Elab.async false
set_option linter.all false
set_option maxRecDepth 100000
set_option maxHeartbeats 2000000
/-! The value layer: frozen data (PyData), lists that one slot owns, semantic functions. -/
namespace TW
open PySem PySem.Spec PyProof.Rows L2

inductive M where
  | fz (d : PyData)
  | ml (xs : List M)
  | fn (x : Str)
  | sc (ns : List Int)

inductive Res (α : Type) where
  | ok (a : α)
  | exc (c : Str)
  | no

abbrev Ev := List (Option M)
abbrev Sm (α : Type) := Ev → Res (α × Ev)
def sret {α : Type} (a : α) : Sm α := fun d => .ok (a, d)
def sfail {α : Type} : Sm α := fun _ => .no
def bd {α β : Type} (f : Sm α) (g : α → Sm β) : Sm β := fun d => match f d with
  | .ok (a, d') => g a d'
  | .exc c => .exc c
  | .no => .no
def sopt {α : Type} : Option α → Sm α
  | some a => sret a
  | none => sfail

mutual
def frz : M → Option PyData
  | .fz d => some d
  | .fn _ => none
  | .sc _ => none
  | .ml xs => match frzs xs with
    | some ds => some (.list ds)
    | none => none
def frzs : List M → Option (List PyData)
  | [] => some []
  | x :: xs => match frz x with
    | some d => (match frzs xs with
      | some ds => some (d :: ds)
      | none => none)
    | none => none
end
/-- all frozen -/
def flats : List M → Option (List PyData)
  | [] => some []
  | .fz d :: xs => (flats xs).map (d :: ·)
  | _ :: _ => none
def flat : M → Option PyData
  | .fz d => some d
  | .ml xs => (flats xs).map .list
  | .sc ns => some (.list (ns.map .int))
  | .fn _ => none

/-- a tuple with its object told -/
def Tp (H : Hp) (a : Addr) (vs : List V) : Prop := ∃ o : Obj, o.dict = none ∧ H a = some (.frz o (.tup vs))
theorem Tp.sq {K : PySem.W.Frag} {H : Hp} {a : Addr} {vs : List V} (h : Tp H a vs) : SqT K H a vs := let ⟨o, _, e⟩ := h; .inl (.inr ⟨o, e⟩)
theorem Tp.keep {H H' : Hp} {a : Addr} {vs : List V} (h : Tp H a vs) (k : ∀ o, H a = some o → H' a = some o) : Tp H' a vs := let ⟨o, d, e⟩ := h; ⟨o, d, k _ e⟩
/-! ### how data lie in the abstract heap -/
section
variable (K : PySem.W.Frag) (mg : Str → Option Value) (F : Addr → Prop) (H : Hp)
def KLs (a : Addr) (vs : List V) : Prop := ∃ (o : Obj) (its : Array Value) (n : Nat), K.lookup a = some o ∧ o.cls = .type "list" ∧ o.dict = none ∧ o.data = .seq its n ∧ its.size ≤ sizeLine ∧ Vals vs its.toList
def ScF (a : Addr) (vs : List V) : Prop := (F a ∧ ∃ o, H a = some (.frz o (.lst vs))) ∨ KLs K a vs
mutual
def Rp : PyData → V → Prop
  | .none, v => v = .non
  | .bool b, v => v = .bl b
  | .int i, v => v = .int i
  | .str s, v => v = .str s
  | .list ds, v => ∃ a vs, v = .ref a ∧ F a ∧ H a = some (.lst vs) ∧ RpL ds vs
  | .tuple ds, v => ∃ a vs, v = .ref a ∧ F a ∧ Tp H a vs ∧ RpL ds vs
  | .dict _, _ => False
def RpL : List PyData → List V → Prop
  | [], vs => vs = []
  | d :: ds, vs => ∃ v r, vs = v :: r ∧ Rp d v ∧ RpL ds r
end
/-- a view: the container itself may be owned -/
def RpW : PyData → V → Prop
  | .list ds, v => ∃ a vs, v = .ref a ∧ SqL K H a vs ∧ RpL F H ds vs
  | d, v => Rp F H d v
mutual
def RpM : M → V → List Addr → Prop
  | .fz d, v, o => o = [] ∧ Rp F H d v
  | .fn x, v, o => o = [] ∧ ∃ f, mg x = some (.ref f) ∧ v = .ref f
  | .sc ns, v, o => o = [] ∧ ∃ a, v = .ref a ∧ ScF K F H a (ns.map V.int)
  | .ml ms, v, o => ∃ a vs o', v = .ref a ∧ H a = some (.lst vs) ∧ o = a :: o' ∧ RpMs ms vs o'
def RpMs : List M → List V → List Addr → Prop
  | [], vs, o => vs = [] ∧ o = []
  | m :: ms, vs, o => ∃ v r o1 o2, vs = v :: r ∧ o = o1 ++ o2 ∧ RpM m v o1 ∧ RpMs ms r o2
end
end

section
variable {K : PySem.W.Frag} {mg : Str → Option Value} {F F' : Addr → Prop} {H H' : Hp}
theorem ScF.sq {a : Addr} {vs : List V} (h : ScF K F H a vs) : SqL K H a vs := by
  rcases h with ⟨_, o, r⟩ | h
  · exact .inl (.inr ⟨o, r⟩)
  · exact .inr h
theorem ScF.keep {a : Addr} {vs : List V} (h : ScF K F H a vs) (m : ∀ a, F a → F' a) (k : ∀ a o, F a → H a = some o → H' a = some o) : ScF K F' H' a vs := by
  rcases h with ⟨f, o, r⟩ | h
  · exact .inl ⟨m _ f, o, k _ _ f r⟩
  · exact .inr h
mutual
theorem Rp.keep (m : ∀ a, F a → F' a) (k : ∀ a o, F a → H a = some o → H' a = some o) : ∀ (d : PyData) {v : V}, Rp F H d v → Rp F' H' d v
  | .none, _, h => h
  | .bool _, _, h => h
  | .int _, _, h => h
  | .str _, _, h => h
  | .list ds, _, h => by
    obtain ⟨a, vs, e, f, l, r⟩ := h
    exact ⟨a, vs, e, m _ f, k _ _ f l, RpL.keep m k ds r⟩
  | .tuple ds, _, h => by
    obtain ⟨a, vs, e, f, l, r⟩ := h
    exact ⟨a, vs, e, m _ f, l.keep fun o y => k _ o f y, RpL.keep m k ds r⟩
  | .dict _, _, h => h.elim
theorem RpL.keep (m : ∀ a, F a → F' a) (k : ∀ a o, F a → H a = some o → H' a = some o) : ∀ (ds : List PyData) {vs : List V}, RpL F H ds vs → RpL F' H' ds vs
  | [], _, h => h
  | d :: ds, _, h => by
    obtain ⟨v, r, e, h1, h2⟩ := h
    exact ⟨v, r, e, Rp.keep m k d h1, RpL.keep m k ds h2⟩
end
theorem Rp.view : ∀ {d : PyData} {v : V}, Rp F H d v → RpW K F H d v
  | .none, _, h => h
  | .bool _, _, h => h
  | .int _, _, h => h
  | .str _, _, h => h
  | .list ds, _, h => by
    obtain ⟨a, vs, e, f, l, r⟩ := h
    exact ⟨a, vs, e, .inl (.inl l), r⟩
  | .tuple ds, _, h => h
  | .dict _, _, h => h
mutual
theorem RpM.keep (m : ∀ a, F a → F' a) (k : ∀ a o, F a → H a = some o → H' a = some o) : ∀ (x : M) {v : V} {o : List Addr}, RpM K mg F H x v o → (∀ a ∈ o, ∀ u, H a = some u → H' a = some u) → RpM K mg F' H' x v o
  | .fz d, _, _, h, _ => ⟨h.1, Rp.keep m k d h.2⟩
  | .fn _, _, _, h, _ => h
  | .sc _, _, _, h, _ => by
    obtain ⟨e, a, e2, h⟩ := h
    exact ⟨e, a, e2, h.keep m k⟩
  | .ml ms, _, _, h, ko => by
    obtain ⟨a, vs, o', e, l, eo, r⟩ := h
    subst eo
    exact ⟨a, vs, o', e, ko a (List.mem_cons_self ..) _ l, rfl, RpMs.keep m k ms r fun b hb => ko b (List.mem_cons_of_mem _ hb)⟩
theorem RpMs.keep (m : ∀ a, F a → F' a) (k : ∀ a o, F a → H a = some o → H' a = some o) : ∀ (xs : List M) {vs : List V} {o : List Addr}, RpMs K mg F H xs vs o → (∀ a ∈ o, ∀ u, H a = some u → H' a = some u) → RpMs K mg F' H' xs vs o
  | [], _, _, h, _ => h
  | x :: xs, _, _, h, ko => by
    obtain ⟨v, r, o1, o2, e, eo, h1, h2⟩ := h
    subst eo
    exact ⟨v, r, o1, o2, e, rfl, RpM.keep m k x h1 fun a ha => ko a (List.mem_append_left _ ha), RpMs.keep m k xs h2 fun a ha => ko a (List.mem_append_right _ ha)⟩
end
/- freezing -/
mutual
theorem RpM.freeze (m : ∀ a, F a → F' a) : ∀ (x : M) {v : V} {o : List Addr} {d : PyData}, RpM K mg F H x v o → (∀ a ∈ o, F' a) → frz x = some d → Rp F' H d v
  | .fz d, _, _, _, h, _, e => by
    cases e
    exact Rp.keep m (fun _ _ _ h => h) d h.2
  | .fn _, _, _, _, _, _, e => by cases e
  | .sc _, _, _, _, _, _, e => by cases e
  | .ml ms, _, _, d, h, ko, e => by
    obtain ⟨a, vs, o', ev, l, eo, r⟩ := h
    subst eo
    have e' : (match frzs ms with | some ds => some (PyData.list ds) | none => none) = some d := e
    cases q : frzs ms with
    | none => rw [q] at e'; cases e'
    | some ds =>
      rw [q] at e'
      cases e'
      exact ⟨a, vs, ev, ko a (List.mem_cons_self ..), l, RpMs.freeze m ms r (fun b hb => ko b (List.mem_cons_of_mem _ hb)) q⟩
theorem RpMs.freeze (m : ∀ a, F a → F' a) : ∀ (xs : List M) {vs : List V} {o : List Addr} {ds : List PyData}, RpMs K mg F H xs vs o → (∀ a ∈ o, F' a) → frzs xs = some ds → RpL F' H ds vs
  | [], _, _, _, h, _, e => by
    cases e
    exact h.1
  | x :: xs, _, _, ds, h, ko, e => by
    obtain ⟨v, r, o1, o2, ev, eo, h1, h2⟩ := h
    subst eo
    have e' : (match frz x with | some d => (match frzs xs with | some ds => some (d :: ds) | none => none) | none => none) = some ds := e
    cases q : frz x with
    | none => rw [q] at e'; cases e'
    | some d =>
      rw [q] at e'
      have e2 : (match frzs xs with | some ds => some (d :: ds) | none => none) = some ds := e'
      cases q2 : frzs xs with
      | none => rw [q2] at e2; cases e2
      | some ds' =>
        rw [q2] at e2
        cases e2
        exact ⟨v, r, ev, RpM.freeze m x h1 (fun b hb => ko b (List.mem_append_left _ hb)) q, RpMs.freeze m xs h2 (fun b hb => ko b (List.mem_append_right _ hb)) q2⟩
end
theorem RpMs.flat : ∀ {xs : List M} {vs : List V} {o : List Addr} {ds : List PyData}, RpMs K mg F H xs vs o → flats xs = some ds → RpL F H ds vs ∧ o = []
  | [], _, _, _, h, e => by
    cases e
    exact h
  | .fz d :: xs, _, _, ds, h, e => by
    obtain ⟨v, r, o1, o2, ev, eo, h1, h2⟩ := h
    have e' : (flats xs).map (d :: ·) = some ds := e
    cases q : flats xs with
    | none => rw [q] at e'; cases e'
    | some ds' =>
      rw [q] at e'
      cases e'
      obtain ⟨a1, a2⟩ := RpMs.flat h2 q
      subst a2
      rw [h1.1] at eo
      exact ⟨⟨v, r, ev, h1.2, a1⟩, eo⟩
  | .ml _ :: _, _, _, _, _, e => by cases e
  | .fn _ :: _, _, _, _, _, e => by cases e
  | .sc _ :: _, _, _, _, _, e => by cases e
theorem ints_rpL : ∀ ns : List Int, RpL F H (ns.map .int) (ns.map V.int)
  | [] => rfl
  | n :: ns => ⟨_, _, rfl, rfl, ints_rpL ns⟩
theorem RpM.view {x : M} {v : V} {o : List Addr} {d : PyData} (h : RpM K mg F H x v o) (e : TW.flat x = some d) : RpW K F H d v := by
  cases x with
  | fz d' =>
    cases e
    exact h.2.view
  | fn y => cases e
  | sc ns =>
    cases e
    obtain ⟨_, a, ev, l⟩ := h
    exact ⟨a, _, ev, l.sq, ints_rpL ns⟩
  | ml ms =>
    obtain ⟨a, vs, o', ev, l, eo, r⟩ := h
    have e' : (flats ms).map PyData.list = some d := e
    cases q : flats ms with
    | none => rw [q] at e'; cases e'
    | some ds =>
      rw [q] at e'
      cases e'
      exact ⟨a, vs, ev, .inl (.inl l), (RpMs.flat r q).1⟩
/- what is owned is tracked -/
mutual
theorem RpM.there : ∀ (x : M) {v : V} {o : List Addr}, RpM K mg F H x v o → ∀ a ∈ o, H a ≠ none
  | .fz _, _, _, h, a, ha => by rw [h.1] at ha; cases ha
  | .fn _, _, _, h, a, ha => by rw [h.1] at ha; cases ha
  | .sc _, _, _, h, a, ha => by rw [h.1] at ha; cases ha
  | .ml ms, _, _, h, a, ha => by
    obtain ⟨b, vs, o', e, l, eo, r⟩ := h
    subst eo
    rcases List.mem_cons.mp ha with q | q
    · rw [q, l]
      exact fun z => by cases z
    · exact RpMs.there ms r a q
theorem RpMs.there : ∀ (xs : List M) {vs : List V} {o : List Addr}, RpMs K mg F H xs vs o → ∀ a ∈ o, H a ≠ none
  | [], _, _, h, a, ha => by rw [h.2] at ha; cases ha
  | x :: xs, _, _, h, a, ha => by
    obtain ⟨v, r, o1, o2, e, eo, h1, h2⟩ := h
    subst eo
    rcases List.mem_append.mp ha with q | q
    · exact RpM.there x h1 a q
    · exact RpMs.there xs h2 a q
end
end
end TW


set_option Elab.async false
set_option linter.all false
set_option maxRecDepth 100000
set_option maxHeartbeats 2000000
namespace TW
open PySem PySem.Spec PyProof.Rows L2

/-! ### worlds -/
structure Wl where
  F : Addr → Prop
  ev : Ev
  ow : Nat → List Addr
def own (W : Wl) : Addr → Prop := fun a => ∃ i, a ∈ W.ow i
def SzOk (H : Hp) : Prop := ∀ a xs, (H a = some (.lst xs) ∨ Tp H a xs) → xs.length ≤ sizeLine
structure Sat (K : PySem.W.Frag) (mg : Str → Option Value) (W : Wl) (H : Hp) (σ : L2.St) : Prop where
  len : σ.length = W.ev.length
  slot : ∀ i m, W.ev[i]? = some (some m) → ∃ v, σ[i]? = some (some v) ∧ RpM K mg W.F H m v (W.ow i)
  nil : ∀ i, (∀ m, W.ev[i]? ≠ some (some m)) → W.ow i = []
  nd : ∀ i, (W.ow i).Nodup
  dj : ∀ i j a, a ∈ W.ow i → a ∈ W.ow j → i = j
  nf : ∀ i a, a ∈ W.ow i → ¬ W.F a
  ft : ∀ a, W.F a → H a ≠ none
structure Stp (O : Addr → Prop) (F : Addr → Prop) (H : Hp) (O' : Addr → Prop) (F' : Addr → Prop) (H' : Hp) : Prop where
  mono : ∀ a, F a → F' a
  out : ∀ a o, H a = some o → ¬ O a → H' a = some o
  fnew : ∀ a, F' a → F a ∨ O a ∨ H a = none
  onew : ∀ a, O' a → O a ∨ H a = none
theorem Stp.refl {O F : Addr → Prop} {H : Hp} : Stp O F H O F H := ⟨fun _ h => h, fun _ _ h _ => h, fun _ h => .inl h, fun _ h => .inl h⟩
theorem Stp.trans {O O1 O2 F F1 F2 : Addr → Prop} {H H1 H2 : Hp} (a : Stp O F H O1 F1 H1) (b : Stp O1 F1 H1 O2 F2 H2) : Stp O F H O2 F2 H2 where
  mono := fun x h => b.mono x (a.mono x h)
  out := fun x o h n => by
    refine b.out x o (a.out x o h n) fun q => ?_
    rcases a.onew x q with z | z
    · exact n z
    · rw [h] at z; cases z
  fnew := fun x h => by
    rcases b.fnew x h with q | q | q
    · exact a.fnew x q
    · rcases a.onew x q with z | z
      · exact .inr (.inl z)
      · exact .inr (.inr z)
    · cases e : H x with
      | none => exact .inr (.inr rfl)
      | some o =>
        by_cases hO : O x
        · exact .inr (.inl hO)
        · rw [a.out x o e hO] at q; cases q
  onew := fun x h => by
    rcases b.onew x h with q | q
    · exact a.onew x q
    · cases e : H x with
      | none => exact .inr rfl
      | some o =>
        by_cases hO : O x
        · exact .inl hO
        · rw [a.out x o e hO] at q; cases q
theorem Stp.less {O O1 O2 F F1 : Addr → Prop} {H H1 : Hp} (a : Stp O F H O1 F1 H1) (h : ∀ x, O2 x → O1 x) : Stp O F H O2 F1 H1 := ⟨a.mono, a.out, a.fnew, fun x q => a.onew x (h x q)⟩
/-- a part that is not touched is carried along -/
theorem Stp.frame {O O1 T F F1 : Addr → Prop} {H H1 : Hp} (a : Stp O F H O1 F1 H1) : Stp (fun x => O x ∨ T x) F H (fun x => O1 x ∨ T x) F1 H1 :=
  ⟨a.mono, fun x o h n => a.out x o h fun q => n (.inl q), fun x h => by rcases a.fnew x h with q | q | q; exact .inl q; exact .inr (.inl (.inl q)); exact .inr (.inr q),
    fun x h => by
      rcases h with q | q
      · rcases a.onew x q with z | z
        · exact .inl (.inl z)
        · exact .inr z
      · exact .inl (.inr q)⟩
section
variable {K : PySem.W.Frag} {mg : Str → Option Value} {W W' : Wl} {H H' : Hp} {σ : L2.St}
theorem Sat.keepF (S : Sat K mg W H σ) {O' F' : Addr → Prop} (st : Stp (own W) W.F H O' F' H') : ∀ a o, W.F a → H a = some o → H' a = some o := fun a o f h =>
  st.out a o h fun ⟨i, z⟩ => S.nf i a z f
theorem Sat.rp (S : Sat K mg W H σ) {O' F' : Addr → Prop} (st : Stp (own W) W.F H O' F' H') {d : PyData} {v : V} (h : Rp W.F H d v) : Rp F' H' d v := Rp.keep st.mono (S.keepF st) d h
theorem Sat.rpM (S : Sat K mg W H σ) {O' F' : Addr → Prop} (st : Stp (own W) W.F H O' F' H') {m : M} {v : V} {r : List Addr} (h : RpM K mg W.F H m v r) (hr : ∀ a ∈ r, ¬ own W a) : RpM K mg F' H' m v r :=
  RpM.keep st.mono (S.keepF st) m h fun a ha u hu => st.out a u hu (hr a ha)
end

/-! ### running a semantic function -/
/-- what a result is: the world, the heap behind, the semantic value, the machine's value, what it owns -/
abbrev RR (α β : Type) := PySem.W.Frag → (Str → Option Value) → Wl → Hp → α → β → List Addr → Prop
def RF : RR PyData V := fun K mg W H d v r => r = [] ∧ Rp W.F H d v
def RO : RR PyData V := fun K mg W H d v r => r = [] ∧ RpW K W.F H d v
def RE : RR M V := fun K mg W H m v r => RpM K mg W.F H m v r ∧ r.Nodup ∧ ∀ a ∈ r, ¬ W.F a ∧ ¬ own W a
def RB : RR Bool Bool := fun K mg W H a b r => r = [] ∧ b = a
def Ew (mg : Str → Option Value) (Ex : XK) (c : Str) (H : Hp) : Prop := ∀ C, mg c = some (.ref C) → Ex (.ref C) none H
/-- quiet: nothing of ours has changed -/
def Quiet (W W' : Wl) (H H' : Hp) : Prop := W'.ev = W.ev ∧ W'.ow = W.ow ∧ ∀ a o, H a = some o → H' a = some o
theorem Quiet.refl {W : Wl} {H : Hp} : Quiet W W H H := ⟨rfl, rfl, fun _ _ h => h⟩
theorem Quiet.trans {W W1 W2 : Wl} {H H1 H2 : Hp} (a : Quiet W W1 H H1) (b : Quiet W1 W2 H1 H2) : Quiet W W2 H H2 := ⟨b.1.trans a.1, b.2.1.trans a.2.1, fun x o h => b.2.2 x o (a.2.2 x o h)⟩
section
variable (K : PySem.W.Frag) (mg : Str → Option Value) (Ex : XK) (q : Bool)
def Run {α β : Type} (R : RR α β) (σ : L2.St) (W : Wl) (H : Hp) (f : Sm α) (Q : β → Hp → Prop) : Prop :=
  match f W.ev with
  | .ok (a, d') => ∀ v W' H' r, W'.ev = d' → Sat K mg W' H' σ → SzOk H' → R K mg W' H' a v r → Stp (own W) W.F H (fun x => own W' x ∨ x ∈ r) W'.F H' → (q = true → Quiet W W' H H') → Q v H'
  | .exc c => ∀ H', (∀ a o, H a = some o → ¬ own W a → H' a = some o) → Ew mg Ex c H'
  | .no => False
end
section
variable {K : PySem.W.Frag} {mg : Str → Option Value} {Ex : XK} {q : Bool} {α β γ δ : Type} {R : RR α β} {R2 : RR γ δ} {σ : L2.St} {W W1 : Wl} {H H1 : Hp} {f : Sm α} {Q Q' : β → Hp → Prop}
theorem Run.mono (h : Run K mg Ex q R σ W H f Q) (k : ∀ v H', Q v H' → Q' v H') : Run K mg Ex q R σ W H f Q' := by
  unfold Run at h ⊢
  split
  · rename_i a d' e
    rw [e] at h
    exact fun v W' H' r a1 a2 a3 a4 a5 a6 => k v H' (h v W' H' r a1 a2 a3 a4 a5 a6)
  · rename_i c e
    rw [e] at h
    exact h
  · rename_i e
    rw [e] at h
    exact h
/-- from a state behind a first part -/
theorem Run.next {g : α → Sm γ} {a : α} {Q : δ → Hp → Prop} (h : Run K mg Ex q R2 σ W H (bd f g) Q) (e : f W.ev = .ok (a, W1.ev)) (st : Stp (own W) W.F H (own W1) W1.F H1) (qt : q = true → Quiet W W1 H H1) :
    Run K mg Ex q R2 σ W1 H1 (g a) Q := by
  have e1 : bd f g W.ev = g a W1.ev := by unfold bd; rw [e]
  unfold Run at h ⊢
  rw [e1] at h
  split
  · rename_i b d' e2
    rw [e2] at h
    exact fun v W' H' r a1 a2 a3 a4 a5 a6 => h v W' H' r a1 a2 a3 a4 (st.trans a5) fun z => (qt z).trans (a6 z)
  · rename_i c e2
    rw [e2] at h
    intro H' k
    refine h H' fun x o hx hn => k x o (st.out x o hx hn) fun z => ?_
    rcases st.onew x z with w | w
    · exact hn w
    · rw [hx] at w; cases w
  · rename_i e2
    rw [e2] at h
    exact h
/-- a first part: what is to be shown behind it -/
theorem Run.first {g : α → Sm γ} {Q : δ → Hp → Prop} (h : Run K mg Ex q R2 σ W H (bd f g) Q) (k : ∀ a v W' H' r, f W.ev = .ok (a, W'.ev) → Sat K mg W' H' σ → SzOk H' → R K mg W' H' a v r → Stp (own W) W.F H (fun x => own W' x ∨ x ∈ r) W'.F H' → (q = true → Quiet W W' H H') → Q' v H') :
    Run K mg Ex q R σ W H f Q' := by
  unfold Run at h ⊢
  split
  · rename_i a d' e
    intro v W' H' r a1 a2 a3 a4 a5 a6
    exact k a v W' H' r (by rw [e, a1]) a2 a3 a4 a5 a6
  · rename_i c e
    have e1 : bd f g W.ev = .exc c := by unfold bd; rw [e]
    rw [e1] at h
    exact h
  · rename_i e
    have e1 : bd f g W.ev = .no := by unfold bd; rw [e]
    rw [e1] at h
    exact h
/-- the end: a value at the state as it stands -/
theorem Run.done {a : α} {v : β} {r : List Addr} (h : Run K mg Ex q R σ W H (sret a) Q) (S : Sat K mg W H σ) (sz : SzOk H) (hr : R K mg W H a v r) (hn : r = []) : Q v H := by
  subst hn
  exact h v W H [] rfl S sz hr (Stp.refl.less fun x z => z.elim id fun y => by cases y) fun _ => .refl
end

/-! ### the judgements -/
theorem szOk_of {X : Cx} {pins : List (Addr × Obj)} {σ : L2.St} {H : Hp} {s : Shared} (I : Inv X pins σ H s) : SzOk H := fun a xs h => by
  rcases h with h | h
  · obtain ⟨z, _⟩ := I.hok a _ h
    exact z
  · obtain ⟨o, _, h⟩ := h
    obtain ⟨_, z, _⟩ := I.hok a _ h
    exact z
def tG (X : Cx) (Ex : XK) (q : Bool) {α β : Type} (R : RR α β) (f : Sm α) : L2.St → Hp → (β → Hp → Prop) → Prop := fun σ H Q => ∃ W, Sat X.K X.mg W H σ ∧ Run X.K X.mg Ex q R σ W H f Q
def GE (X : Cx) (Ex : XK) (q : Bool) {α : Type} (R : RR α V) (e : Expr) (f : Sm α) : Prop := PE X e (tG X Ex q R f)
def GT (X : Cx) (Ex : XK) (q : Bool) (e : Expr) (f : Sm Bool) : Prop := PT X e (tG X Ex q RB f)
def GA (X : Cx) (Ex : XK) (q : Bool) {α : Type} (R : RR α (List V)) (es : List Expr) (f : Sm α) : Prop := PA X es (tG X Ex q R f)
section
variable {X : Cx} {Ex : XK} {q : Bool} {e a b : Expr} {es : List Expr}
theorem pe_weak {t t' : TE} (h : PE X e t) (w : ∀ σ H Q, SzOk H → t' σ H Q → t σ H (fun v H' => SzOk H' → Q v H')) : PE X e t' :=
  ⟨fun pins s σ H Q I hw => thn (h.run pins s σ H _ I (w σ H Q (szOk_of I) hw)) fun _ _ ⟨v, H', I', r, k⟩ => ⟨v, H', I', r, k (szOk_of I')⟩⟩
theorem pt_weak {t t' : TT} (h : PT X e t) (w : ∀ σ H Q, SzOk H → t' σ H Q → t σ H (fun v H' => SzOk H' → Q v H')) : PT X e t' :=
  ⟨fun pins s σ H Q I hw => thn (h.run pins s σ H _ I (w σ H Q (szOk_of I) hw)) fun _ _ ⟨H', I', k⟩ => ⟨H', I', k (szOk_of I')⟩⟩
theorem pw_weak {t t' : TT} (h : PW X e t) (w : ∀ σ H Q, SzOk H → t' σ H Q → t σ H (fun v H' => SzOk H' → Q v H')) : PW X e t' :=
  ⟨fun wh pins s σ H Q I hw => thn (h.run wh pins s σ H _ I (w σ H Q (szOk_of I) hw)) fun _ _ ⟨H', I', k⟩ => ⟨H', I', k (szOk_of I')⟩⟩
theorem pa_weak {t t' : TA} (h : PA X es t) (w : ∀ σ H Q, SzOk H → t' σ H Q → t σ H (fun v H' => SzOk H' → Q v H')) : PA X es t' :=
  ⟨fun pos pins s σ H Q I hw => thn (h.run pos pins s σ H _ I (w σ H Q (szOk_of I) hw)) fun _ _ ⟨vs, H', I', r, k⟩ => ⟨vs, H', I', r, k (szOk_of I')⟩⟩
/-- a first part of a reading -/
theorem tG.first {α β γ δ : Type} {R : RR α β} {R2 : RR γ δ} {f : Sm α} {g : α → Sm γ} {σ : L2.St} {H : Hp} {Q : δ → Hp → Prop} {Q' : β → Hp → Prop} (h : tG X Ex q R2 (bd f g) σ H Q)
    (k : ∀ a v W H' r, Sat X.K X.mg W H' σ → SzOk H' → R X.K X.mg W H' a v r → (r = [] → Run X.K X.mg Ex q R2 σ W H' (g a) Q) → Q' v H') : tG X Ex q R f σ H Q' := by
  obtain ⟨W, S, h⟩ := h
  refine ⟨W, S, h.first fun a v W' H' r e S' z hr st qt => k a v W' H' r S' z hr fun en => ?_⟩
  subst en
  exact h.next e (st.less fun x y => .inl y) qt
theorem RF.nil {K mg W H d v r} (h : RF K mg W H d v r) : r = [] := h.1
/-- freezing what is made -/
theorem ge_fz {f : Sm M} (h : GE X Ex q RE e f) : GE X Ex q RF e (bd f fun m => sopt (frz m)) := by
  refine pe_weak h fun σ H Q z ht => ?_
  obtain ⟨W, S, ht⟩ := ht
  refine ⟨W, S, ht.first fun m v W' H' r e S' z hr st qt z2 => ?_⟩
  obtain ⟨hm, nd, dj⟩ := hr
  have S1 : Sat X.K X.mg ⟨fun a => W'.F a ∨ a ∈ r, W'.ev, W'.ow⟩ H' σ := by
    refine ⟨S'.len, fun i m' hi => ?_, S'.nil, S'.nd, S'.dj, fun i a ha hf => ?_, fun a ha => ?_⟩
    · obtain ⟨u, h1, h2⟩ := S'.slot i m' hi
      exact ⟨u, h1, RpM.keep (fun _ y => .inl y) (fun _ _ _ y => y) m' h2 fun _ _ _ y => y⟩
    · rcases hf with y | y
      · exact S'.nf i a ha y
      · exact (dj a y).2 ⟨i, ha⟩
    · rcases ha with y | y
      · exact S'.ft a y
      · exact RpM.there m hm a y
  have h2 := ht.next (W1 := ⟨fun a => W'.F a ∨ a ∈ r, W'.ev, W'.ow⟩) (H1 := H') e ⟨fun a y => .inl (st.mono a y), st.out, fun a y => ?_, fun a y => st.onew a (.inl y)⟩ (fun y => qt y)
  · cases q' : frz m with
    | none =>
      rw [q'] at h2
      exact h2.elim
    | some d =>
      rw [q'] at h2
      exact h2.done (r := []) S1 z2 ⟨rfl, RpM.freeze (fun _ y => .inl y) m hm (fun a y => .inr y) q'⟩ rfl
  · rcases y with y | y
    · exact st.fnew a y
    · rcases st.onew a (.inr y) with w | w
      · exact .inr (.inl w)
      · exact .inr (.inr w)
theorem ge_view {f : Sm PyData} (h : GE X Ex q RF e f) : GE X Ex q RO e f := by
  refine pe_weak h fun σ H Q z ht => ?_
  obtain ⟨W, S, ht⟩ := ht
  refine ⟨W, S, ?_⟩
  unfold Run at ht ⊢
  split
  · rename_i a d' e
    rw [e] at ht
    exact fun v W' H' r a1 a2 a3 a4 a5 a6 z2 => ht v W' H' r a1 a2 a3 ⟨a4.1, a4.2.view⟩ a5 a6
  · rename_i c e
    rw [e] at ht
    exact ht
  · rename_i e
    rw [e] at ht
    exact ht
theorem ge_lift {f : Sm PyData} (h : GE X Ex q RF e f) : GE X Ex q RE e (bd f fun d => sret (.fz d)) := by
  refine pe_weak h fun σ H Q z ht => ht.first fun d v W H' r S z hr k z2 => ?_
  exact (k hr.1).done (r := []) S z2 ⟨⟨rfl, hr.2⟩, List.nodup_nil, fun a y => by cases y⟩ rfl
end
end TW


set_option Elab.async false
set_option linter.all false
set_option maxRecDepth 100000
set_option maxHeartbeats 2000000
namespace TW
open PySem PySem.Spec PyProof.Rows L2

section
variable {K : PySem.W.Frag} {mg : Str → Option Value} {W : Wl} {H : Hp} {σ : L2.St} {p : Addr} {o : HO}
theorem keep_upd (hp : H p = none) : ∀ a u, H a = some u → (upd H p o) a = some u := fun a u h => by rw [upd_ne (ne_of_none h hp)]; exact h
/-- a new object -/
theorem Sat.grow (S : Sat K mg W H σ) (hp : H p = none) : Sat K mg W (upd H p o) σ where
  len := S.len
  slot := fun i m h => by
    obtain ⟨v, h1, h2⟩ := S.slot i m h
    exact ⟨v, h1, RpM.keep (fun _ y => y) (fun a u _ y => keep_upd hp a u y) m h2 fun a _ u y => keep_upd hp a u y⟩
  nil := S.nil
  nd := S.nd
  dj := S.dj
  nf := S.nf
  ft := fun a h => by
    cases e : H a with
    | none => exact absurd e (S.ft a h)
    | some u => rw [keep_upd hp a u e]; exact fun z => by cases z
/-- .. which is frozen at once -/
theorem Sat.growF (S : Sat K mg W H σ) (hp : H p = none) : Sat K mg ⟨fun a => W.F a ∨ a = p, W.ev, W.ow⟩ (upd H p o) σ where
  len := S.len
  slot := fun i m h => by
    obtain ⟨v, h1, h2⟩ := S.slot i m h
    exact ⟨v, h1, RpM.keep (fun _ y => .inl y) (fun a u _ y => keep_upd hp a u y) m h2 fun a _ u y => keep_upd hp a u y⟩
  nil := S.nil
  nd := S.nd
  dj := S.dj
  nf := fun i a h f => by
    rcases f with f | f
    · exact S.nf i a h f
    · subst f
      have hs : ∃ m, W.ev[i]? = some (some m) := by
        by_cases q : ∃ m, W.ev[i]? = some (some m)
        · exact q
        · have := S.nil i fun m z => q ⟨m, z⟩
          rw [this] at h
          cases h
      obtain ⟨m, hm⟩ := hs
      obtain ⟨v, _, h2⟩ := S.slot i m hm
      exact RpM.there m h2 a h hp
  ft := fun a h => by
    rcases h with h | h
    · exact (S.grow (o := o) hp).ft a h
    · subst h
      rw [upd_same]
      exact fun z => by cases z
theorem Sat.ownT (S : Sat K mg W H σ) {a : Addr} (h : own W a) : H a ≠ none := by
  obtain ⟨i, h⟩ := h
  by_cases q : ∃ m, W.ev[i]? = some (some m)
  · obtain ⟨m, hm⟩ := q
    obtain ⟨v, _, h2⟩ := S.slot i m hm
    exact RpM.there m h2 a h
  · have := S.nil i fun m z => q ⟨m, z⟩
    rw [this] at h
    cases h
theorem RpL.msF {F : Addr → Prop} : ∀ {ds : List PyData} {vs : List V}, RpL F H ds vs → RpMs K mg F H (ds.map .fz) vs []
  | [], _, h => ⟨h, rfl⟩
  | d :: ds, _, h => by
    obtain ⟨v, r, e, h1, h2⟩ := h
    exact ⟨v, r, [], [], e, rfl, ⟨rfl, h1⟩, RpL.msF h2⟩
theorem RpL.length {F : Addr → Prop} : ∀ {ds : List PyData} {vs : List V}, RpL F H ds vs → vs.length = ds.length
  | [], _, h => by rw [h] <;> rfl
  | d :: ds, _, h => by
    obtain ⟨v, r, e, h1, h2⟩ := h
    rw [e, List.length_cons, List.length_cons, RpL.length h2]
theorem RpL.get {F : Addr → Prop} : ∀ {ds : List PyData} {vs : List V} {i : Nat} {d : PyData}, RpL F H ds vs → ds[i]? = some d → ∃ v, vs[i]? = some v ∧ Rp F H d v
  | [], _, _, _, _, e => by simp at e
  | d :: ds, _, 0, d', h, e => by
    obtain ⟨v, r, e1, h1, h2⟩ := h
    simp at e
    subst e e1
    exact ⟨v, rfl, h1⟩
  | d :: ds, _, i + 1, d', h, e => by
    obtain ⟨v, r, e1, h1, h2⟩ := h
    subst e1
    obtain ⟨u, q1, q2⟩ := RpL.get (i := i) h2 (by simpa using e)
    exact ⟨u, by simpa using q1, q2⟩
theorem RpL.append {F : Addr → Prop} : ∀ {ds es : List PyData} {vs us : List V}, RpL F H ds vs → RpL F H es us → RpL F H (ds ++ es) (vs ++ us)
  | [], _, _, _, h, h' => by
    cases h
    exact h'
  | d :: ds, _, _, _, h, h' => by
    obtain ⟨v, r, e, h1, h2⟩ := h
    subst e
    exact ⟨v, _, rfl, h1, RpL.append h2 h'⟩
theorem RpL.reverse {F : Addr → Prop} : ∀ {ds : List PyData} {vs : List V}, RpL F H ds vs → RpL F H ds.reverse vs.reverse
  | [], _, h => by
    cases h
    rfl
  | d :: ds, _, h => by
    obtain ⟨v, r, e, h1, h2⟩ := h
    subst e
    rw [List.reverse_cons, List.reverse_cons]
    exact RpL.append (RpL.reverse h2) ⟨v, [], rfl, h1, rfl⟩
theorem RpL.take {F : Addr → Prop} : ∀ {ds : List PyData} {vs : List V} (n : Nat), RpL F H ds vs → RpL F H (ds.take n) (vs.take n)
  | _, _, 0, _ => by simp [RpL]
  | [], _, n + 1, h => by
    cases h
    simp [RpL]
  | d :: ds, _, n + 1, h => by
    obtain ⟨v, r, e, h1, h2⟩ := h
    subst e
    exact ⟨v, _, rfl, h1, RpL.take n h2⟩
theorem RpL.drop {F : Addr → Prop} : ∀ {ds : List PyData} {vs : List V} (n : Nat), RpL F H ds vs → RpL F H (ds.drop n) (vs.drop n)
  | _, _, 0, h => h
  | [], _, n + 1, h => by
    cases h
    rfl
  | d :: ds, _, n + 1, h => by
    obtain ⟨v, r, e, h1, h2⟩ := h
    subst e
    exact RpL.drop n h2
theorem RpL.rep {F : Addr → Prop} {ds : List PyData} {vs : List V} (h : RpL F H ds vs) : ∀ n : Nat, RpL F H (List.replicate n ds).flatten (List.replicate n vs).flatten
  | 0 => rfl
  | n + 1 => by
    rw [List.replicate_succ, List.replicate_succ, List.flatten_cons, List.flatten_cons]
    exact RpL.append h (RpL.rep h n)
theorem RpL.keep' {F F' : Addr → Prop} {H' : Hp} (m : ∀ a, F a → F' a) (k : ∀ a o, H a = some o → H' a = some o) {ds : List PyData} {vs : List V} (h : RpL F H ds vs) : RpL F' H' ds vs := RpL.keep m (fun a o _ q => k a o q) ds h
end
section
variable {K : PySem.W.Frag} {mg : Str → Option Value} {Ex : XK} {q : Bool} {W : Wl} {H : Hp} {σ : L2.St} {p : Addr} {Q : V → Hp → Prop} {ds : List PyData} {vs : List V}
/-- a new list of frozen things -/
theorem Run.newL (h : Run K mg Ex q RE σ W H (sret (.ml (ds.map .fz))) Q) (S : Sat K mg W H σ) (r : RpL W.F H ds vs) (hp : H p = none) (z : SzOk (upd H p (.lst vs))) : Q (.ref p) (upd H p (.lst vs)) := by
  refine h (.ref p) W _ [p] rfl (S.grow hp) z ⟨⟨p, vs, [], rfl, upd_same, rfl, RpL.msF (RpL.keep' (fun _ y => y) (keep_upd hp) r)⟩, by simp, fun a ha => ?_⟩ ⟨fun _ y => y, fun a u y _ => keep_upd hp a u y, fun _ y => .inl y, fun a y => ?_⟩ fun _ => ⟨rfl, rfl, keep_upd hp⟩
  · have e : a = p := by simpa using ha
    subst e
    exact ⟨fun y => S.ft _ y hp, fun y => S.ownT y hp⟩
  · rcases y with y | y
    · exact .inl y
    · have e : a = p := by simpa using y
      subst e
      exact .inr hp
/-- a new tuple -/
theorem Run.newT {o : Obj} (h : Run K mg Ex q RF σ W H (sret (.tuple ds)) Q) (S : Sat K mg W H σ) (r : RpL W.F H ds vs) (hp : H p = none) (ho : o.dict = none) (z : SzOk (upd H p (.frz o (.tup vs)))) : Q (.ref p) (upd H p (.frz o (.tup vs))) := by
  refine h (.ref p) ⟨fun a => W.F a ∨ a = p, W.ev, W.ow⟩ _ [] rfl (S.growF hp) z ⟨rfl, p, vs, rfl, .inr rfl, ⟨o, ho, upd_same⟩, RpL.keep' (fun _ y => .inl y) (keep_upd hp) r⟩ ⟨fun _ y => .inl y, fun a u y _ => keep_upd hp a u y, fun a y => ?_, fun a y => ?_⟩ fun _ => ⟨rfl, rfl, keep_upd hp⟩
  · rcases y with y | y
    · exact .inl y
    · subst y
      exact .inr (.inr hp)
  · rcases y with y | y
    · exact .inl y
    · cases y
theorem Run.newTE {o : Obj} (h : Run K mg Ex q RE σ W H (sret (.fz (.tuple ds))) Q) (S : Sat K mg W H σ) (r : RpL W.F H ds vs) (hp : H p = none) (ho : o.dict = none) (z : SzOk (upd H p (.frz o (.tup vs)))) : Q (.ref p) (upd H p (.frz o (.tup vs))) := by
  refine h (.ref p) ⟨fun a => W.F a ∨ a = p, W.ev, W.ow⟩ _ [] rfl (S.growF hp) z ⟨⟨rfl, p, vs, rfl, .inr rfl, ⟨o, ho, upd_same⟩, RpL.keep' (fun _ y => .inl y) (keep_upd hp) r⟩, by simp, fun a y => by cases y⟩ ⟨fun _ y => .inl y, fun a u y _ => keep_upd hp a u y, fun a y => ?_, fun a y => ?_⟩ fun _ => ⟨rfl, rfl, keep_upd hp⟩
  · rcases y with y | y
    · exact .inl y
    · subst y
      exact .inr (.inr hp)
  · rcases y with y | y
    · exact .inl y
    · cases y
/-- frozen data that stand already -/
theorem Run.doneF {d : PyData} {v : V} (h : Run K mg Ex q RF σ W H (sret d) Q) (S : Sat K mg W H σ) (sz : SzOk H) (r : Rp W.F H d v) : Q v H := h.done S sz ⟨rfl, r⟩ rfl
theorem Run.doneE {d : PyData} {v : V} (h : Run K mg Ex q RE σ W H (sret (.fz d)) Q) (S : Sat K mg W H σ) (sz : SzOk H) (r : Rp W.F H d v) : Q v H := h.done (r := []) S sz ⟨⟨rfl, r⟩, List.nodup_nil, fun a y => by cases y⟩ rfl
theorem Run.doneB {b : Bool} {Q : Bool → Hp → Prop} (h : Run K mg Ex q RB σ W H (sret b) Q) (S : Sat K mg W H σ) (sz : SzOk H) : Q b H := h.done S sz ⟨rfl, rfl⟩ rfl
end

section
variable {X : Cx} {Ex : XK} {q : Bool} {e a b : Expr} {pos : Pos}
/-- two parts of a reading, the first frozen -/
theorem tG.bin {α β γ δ : Type} {R2 : RR α β} {R3 : RR γ δ} {fa : Sm PyData} {fb : Sm α} {g : PyData → α → Sm γ} {σ : L2.St} {H : Hp} {Q : δ → Hp → Prop} {Q' : V → β → Hp → Prop}
    (h : tG X Ex q R3 (bd fa fun d => bd fb fun e => g d e) σ H Q) (nil : ∀ K mg W H a v r, R2 K mg W H a v r → r = [])
    (k : ∀ d e x y W H', Sat X.K X.mg W H' σ → SzOk H' → Rp W.F H' d x → R2 X.K X.mg W H' e y [] → Run X.K X.mg Ex q R3 σ W H' (g d e) Q → Q' x y H') :
    tG X Ex q RF fa σ H (fun x H1 => tG X Ex q R2 fb σ H1 fun y H2 => Q' x y H2) := by
  refine h.first fun d x W H1 r S z hr k1 => ?_
  have k1 := k1 hr.1
  refine ⟨W, S, k1.first fun e y W2 H2 r2 e2 S2 z2 hr2 st qt => ?_⟩
  have en := nil _ _ _ _ _ _ _ hr2
  subst en
  have st' := st.less (O2 := own W2) fun x y => .inl y
  exact k d e x y W2 H2 S2 z2 (S.rp st' hr.2) hr2 (k1.next e2 st' qt)
theorem RF_nil : ∀ K mg W H (a : PyData) v r, RF K mg W H a v r → r = [] := fun _ _ _ _ _ _ _ h => h.1
theorem RO_nil : ∀ K mg W H (a : PyData) v r, RO K mg W H a v r → r = [] := fun _ _ _ _ _ _ _ h => h.1
theorem RB_nil : ∀ K mg W H (a : Bool) v r, RB K mg W H a v r → r = [] := fun _ _ _ _ _ _ _ h => h.1

/-! ### constants, names -/
def scC (d : PyData) : Sm PyData := sret d
theorem gc_int {i : Int} {j : Nat} : GE X Ex q RF (.Constant (.int i) j pos) (sret (.int i)) := pe_weak pe_int fun σ H Q z ⟨W, S, h⟩ z2 => h.doneF S z2 rfl
theorem gc_bool {i : Bool} {j : Nat} : GE X Ex q RF (.Constant (.bool i) j pos) (sret (.bool i)) := pe_weak pe_bl fun σ H Q z ⟨W, S, h⟩ z2 => h.doneF S z2 rfl
theorem gc_none {j : Nat} : GE X Ex q RF (.Constant .none j pos) (sret .none) := pe_weak pe_non fun σ H Q z ⟨W, S, h⟩ z2 => h.doneF S z2 rfl
theorem gc_str {x : Str} {j : Nat} : GE X Ex q RF (.Constant (.str x) j pos) (sret (.str x)) := pe_weak pe_str fun σ H Q z ⟨W, S, h⟩ z2 => h.doneF S z2 rfl
theorem ge_gint {x : Str} {i : Int} {t : Tok} (hg : Gl X x) (hm : X.mg x = some (.int i t)) (hd : (x == ("__debug__" : Str)) = false) : GE X Ex q RF (.Name x pos) (sret (.int i)) :=
  pe_weak (pe_glob (v := .int i) hg hm ⟨t, rfl⟩ hd) fun σ H Q z ⟨W, S, h⟩ z2 => h.doneF S z2 rfl
/-- a slot that holds frozen data -/
def vF (i : Nat) : Sm PyData := fun d => match d[i]? with
  | some (some (.fz x)) => .ok (x, d)
  | _ => .no
/-- a look at a slot -/
def vO (i : Nat) : Sm PyData := fun d => match d[i]? with
  | some (some m) => (match flat m with
    | some x => .ok (x, d)
    | none => .no)
  | _ => .no
/-- a slot's value handed on: what it owns is frozen -/
def vE (i : Nat) : Sm M := fun d => match d[i]? with
  | some (some (.fz x)) => .ok (.fz x, d)
  | some (some (.fn x)) => .ok (.fn x, d)
  | some (some (.sc x)) => .ok (.sc x, d)
  | some (some (.ml xs)) => (match frzs xs with
    | some ds => .ok (.fz (.list ds), d.set i (some (.fz (.list ds))))
    | none => .no)
  | _ => .no
section
variable {i : Nat} {x : Str}
theorem ge_vF (hN : X.N[i]? = some x) (hv : Vis X.env.scope x) (hd : (x == ("__debug__" : Str)) = false) (hcd : (x == ("__classdict__" : Str)) = false) : GE X Ex q RF (.Name x pos) (vF i) := by
  refine pe_weak (pe_var hN hv hd hcd) fun σ H Q z ⟨W, S, h⟩ => ?_
  cases e : W.ev[i]? with
  | none =>
    have e1 : vF i W.ev = .no := by unfold vF; rw [e]
    unfold Run at h; rw [e1] at h; exact h.elim
  | some o =>
    cases o with
    | none =>
      have e1 : vF i W.ev = .no := by unfold vF; rw [e]
      unfold Run at h; rw [e1] at h; exact h.elim
    | some m =>
      cases m with
      | fz d =>
        obtain ⟨v, h1, h2⟩ := S.slot i _ e
        have e1 : vF i W.ev = .ok (d, W.ev) := by unfold vF; rw [e]
        unfold Run at h; rw [e1] at h
        exact ⟨v, h1, fun z2 => h v W H [] rfl S z2 ⟨rfl, h2.2⟩ (Stp.refl.less fun _ y => y.elim id fun y => by cases y) fun _ => .refl⟩
      | _ =>
        have e1 : vF i W.ev = .no := by unfold vF; rw [e]
        unfold Run at h; rw [e1] at h; exact h.elim
theorem ge_vO (hN : X.N[i]? = some x) (hv : Vis X.env.scope x) (hd : (x == ("__debug__" : Str)) = false) (hcd : (x == ("__classdict__" : Str)) = false) : GE X Ex q RO (.Name x pos) (vO i) := by
  refine pe_weak (pe_var hN hv hd hcd) fun σ H Q z ⟨W, S, h⟩ => ?_
  cases e : W.ev[i]? with
  | none =>
    have e1 : vO i W.ev = .no := by unfold vO; rw [e]
    unfold Run at h; rw [e1] at h; exact h.elim
  | some o =>
    cases o with
    | none =>
      have e1 : vO i W.ev = .no := by unfold vO; rw [e]
      unfold Run at h; rw [e1] at h; exact h.elim
    | some m =>
      cases e2 : flat m with
      | none =>
        have e1 : vO i W.ev = .no := by unfold vO; rw [e]; show (match flat m with | some x => _ | none => _) = _; rw [e2]
        unfold Run at h; rw [e1] at h; exact h.elim
      | some d =>
        obtain ⟨v, h1, h2⟩ := S.slot i _ e
        have e1 : vO i W.ev = .ok (d, W.ev) := by unfold vO; rw [e]; show (match flat m with | some x => _ | none => _) = _; rw [e2]
        unfold Run at h; rw [e1] at h
        exact ⟨v, h1, fun z2 => h v W H [] rfl S z2 ⟨rfl, h2.view e2⟩ (Stp.refl.less fun _ y => y.elim id fun y => by cases y) fun _ => .refl⟩
end
end
/-! ### new tuples, told with their objects -/
section
variable {X : Cx}
theorem inv_tnew {pins : List (Addr × Obj)} {σ : L2.St} {H : Hp} {s : Shared} {xs : List V} {its : List Value} (I : Inv X pins σ H s) (r : Vals xs its) (z : xs.length ≤ sizeLine) (t' : Nat) :
    Inv X pins σ (upd H s.heap.objs.size (.frz { cls := .type "tuple", data := .seq its.toArray } (.tup xs))) { s with heap := s.heap.push { cls := .type "tuple", data := .seq its.toArray }, toks := t' } :=
  I.laid (fun _ _ q => Heap.get?_push_of_some _ q) (Nat.le_refl _) ⟨Heap.get?_push_size _ rfl, z, its, r, IsTup.new _ _⟩
/-- what a new tuple at p says of Q -/
def NewT (xs : List V) (H : Hp) (Q : V → Hp → Prop) : Prop := ∀ p o, H p = none → o.dict = none → Q (.ref p) (upd H p (.frz o (.tup xs)))
theorem NewT.ep {pins : List (Addr × Obj)} {σ : L2.St} {H : Hp} {s : Shared} {xs : List V} {its : List Value} {Q : V → Hp → Prop} (n : NewT xs H Q) (I : Inv X pins σ H s) (r : Vals xs its) (z : xs.length ≤ sizeLine) (t' : Nat) :
    EP X pins σ Q (.ref s.heap.objs.size) { s with heap := s.heap.push { cls := .type "tuple", data := .seq its.toArray }, toks := t' } :=
  ⟨.ref s.heap.objs.size, _, inv_tnew I r z t', rfl, n _ _ (I.hok.fresh (Nat.le_refl _)) rfl⟩
theorem pe_tupX {es : List Expr} {k : Nat} {pos : Pos} {t : TA} (h : PA X es t) : PE X (.Tuple es k pos) (fun σ H Q => t σ H fun xs H1 => xs.length ≤ sizeLine ∧ NewT xs H1 Q) := by
  refine ⟨fun pins s σ H Q I hq => ?_⟩
  exact wpAny_Tuple_spliced (thn (h.run pos pins s σ H _ I hq) fun us s1 ⟨xs, H1, I1, r, z, q⟩ => ⟨by rw [← r.length]; exact z, q.ep I1 r z s1.toks⟩)
theorem call_tuple_ofX : CallR X (.type "tuple") (fun xs H Q => ∃ p ys, xs = [.ref p] ∧ ((SqL X.K H p ys ∧ NewT ys H Q) ∨ (SqT X.K H p ys ∧ Q (.ref p) H))) := by
  intro pins s σ H xs us Q I r h
  obtain ⟨p, ys, rfl, h⟩ := h
  obtain ⟨u, rfl, rx⟩ := vals1 r
  cases rx
  rcases h with ⟨hq, q⟩ | ⟨hq, q⟩
  · obtain ⟨its, r', pl, hz⟩ := I.list hq
    have hlen := r'.length
    refine call_tuple_list pl.isList (fun h' kp => ?_) (by simp only [List.size_toArray] <;> omega)
    have I1 : Inv X pins σ H { s with heap := h' } := I.kept (t' := s.toks) kp
    exact q.ep I1 r' hz s.toks
  · obtain ⟨its, r', pl, hz⟩ := I.tuple hq
    exact call_tuple_same pl ⟨.ref p, H, I, rfl, q⟩
def rSlX (K : PySem.W.Frag) : V → Option Int → Option Int → Hp → VK → Prop := fun x lo hi H Q => ∃ a xs, x = .ref a ∧ SqT K H a xs ∧
  (HT.sIx xs.length 0 lo = 0 ∧ HT.sIx xs.length xs.length hi = xs.length → Q (.ref a) H) ∧ (¬ (HT.sIx xs.length 0 lo = 0 ∧ HT.sIx xs.length xs.length hi = xs.length) → NewT (cutV xs lo hi) H Q)
theorem sl_tupX : SlR X (rSlX X.K) := by
  intro pins s σ H x v vl vu lo hi sl Q I rx hs pl pu h
  obtain ⟨a, xs, rfl, hx, q1, q2⟩ := h
  by_cases hw : HT.sIx xs.length 0 lo = 0 ∧ HT.sIx xs.length xs.length hi = xs.length
  · exact sl_tupA pins s σ H _ v vl vu lo hi sl Q I rx hs pl pu ⟨a, xs, rfl, hx, q1, fun z => absurd hw z⟩
  cases rx
  obtain ⟨its, r, ht, hz⟩ := I.tuple hx
  have hlen : its.toArray.size = xs.length := by rw [List.size_toArray]; exact r.length.symm
  refine ⟨"tuple", _, PyProof.Rows.slot_tuple_getitem.lookup, ht.typeIs, ?_⟩
  refine HT.getItem_tuple_cut ht hs pl pu (by rw [hlen]; exact hw) ?_ (by rw [hlen]; exact hz)
  rw [hlen]
  exact (q2 hw).ep I ((r.drop (HT.sIx xs.length 0 lo)).take (HT.sIx xs.length xs.length hi - HT.sIx xs.length 0 lo)) (Nat.le_trans (cutV_length xs lo hi) hz) s.toks
def rCatX (K : PySem.W.Frag) : R2 := fun x y H Q => ∃ a b xs ys, x = .ref a ∧ y = .ref b ∧ SqT K H a xs ∧ SqT K H b ys ∧ xs.length + ys.length ≤ sizeLine ∧
  (xs = [] → Q (.ref b) H) ∧ (xs ≠ [] → ys = [] → Q (.ref a) H) ∧ (xs ≠ [] → ys ≠ [] → NewT (xs ++ ys) H Q)
theorem op_catX : OpR X (binaryOp .Add) (rCatX X.K) := by
  intro pins s σ H x y v u Q I rx ry h
  obtain ⟨a, b, xs, ys, rfl, rfl, ha, hb, hz, q0, q1, q2⟩ := h
  by_cases hx : xs = []
  · exact op_catA pins s σ H _ _ v u Q I rx ry ⟨a, b, xs, ys, rfl, rfl, ha, hb, hz, q0, q1, fun z => absurd hx z⟩
  by_cases hy : ys = []
  · exact op_catA pins s σ H _ _ v u Q I rx ry ⟨a, b, xs, ys, rfl, rfl, ha, hb, hz, q0, q1, fun _ z => absurd hy z⟩
  cases rx
  cases ry
  obtain ⟨its, r1, p1, _⟩ := I.tuple ha
  obtain ⟨its2, r2, p2, _⟩ := I.tuple hb
  refine HT.cat_tup p1 p2 (fun z => hx (r1.nil_iff.mp z)) (fun z => absurd (r2.nil_iff.mp z) hy) (fun z => ?_) (by rw [← r1.length, ← r2.length]; exact hz)
  exact (q2 hx hy).ep I (r1.append r2) (by rw [List.length_append]; exact hz) s.toks
end
end TW


set_option Elab.async false
set_option linter.all false
set_option maxRecDepth 100000
set_option maxHeartbeats 2000000
namespace TW
open PySem PySem.Spec PyProof.Rows L2

/-! ### data read off the heap -/
section
variable {F : Addr → Prop} {H : Hp} {K : PySem.W.Frag}
mutual
theorem Rp.dp : ∀ (d : PyData) {v : V}, Rp F H d v → Dp K H v d
  | .none, _, h => by cases h; exact .non
  | .bool _, _, h => by cases h; exact .bl _
  | .int _, _, h => by cases h; exact .int _
  | .str _, _, h => by cases h; exact .str _
  | .list ds, _, h => by
    obtain ⟨a, vs, e, f, l, r⟩ := h
    subst e
    exact .lst (.inl (.inl l)) (RpL.dp ds r)
  | .tuple ds, _, h => by
    obtain ⟨a, vs, e, f, l, r⟩ := h
    subst e
    exact .tup l.sq (RpL.dp ds r)
  | .dict _, _, h => h.elim
theorem RpL.dp : ∀ (ds : List PyData) {vs : List V}, RpL F H ds vs → DpAll K H vs ds
  | [], _, h => by cases h; exact .nil
  | d :: ds, _, h => by
    obtain ⟨v, r, e, h1, h2⟩ := h
    subst e
    exact .cons (Rp.dp d h1) (RpL.dp ds h2)
end
theorem RpW.dp {d : PyData} {v : V} (h : RpW K F H d v) : Dp K H v d := by
  cases d with
  | list ds =>
    obtain ⟨a, vs, e, l, r⟩ := h
    subst e
    exact .lst l (RpL.dp ds r)
  | none => exact Rp.dp (F := F) .none h
  | bool b => exact Rp.dp (F := F) (.bool b) h
  | int b => exact Rp.dp (F := F) (.int b) h
  | str b => exact Rp.dp (F := F) (.str b) h
  | tuple b => exact Rp.dp (F := F) (.tuple b) h
  | dict b => exact Rp.dp (F := F) (.dict b) h
mutual
theorem Dp.plain : ∀ (d : PyData) {v : V}, Dp K H v d → d.plain = true
  | .none, _, _ => rfl
  | .bool _, _, _ => rfl
  | .int _, _, _ => rfl
  | .str _, _, _ => rfl
  | .list ds, _, h => by
    cases h with
    | lst _ h => simpa [PyData.plain] using DpAll.plain ds h
  | .tuple ds, _, h => by
    cases h with
    | tup _ h => simpa [PyData.plain] using DpAll.plain ds h
  | .dict _, _, h => by cases h
theorem DpAll.plain : ∀ (ds : List PyData) {vs : List V}, DpAll K H vs ds → PyData.plainAll ds = true
  | [], _, _ => rfl
  | d :: ds, _, h => by
    cases h with
    | cons h1 h2 => rw [PyData.plainAll, Dp.plain d h1, DpAll.plain ds h2] <;> rfl
end
end

/-! ### operators -/
def sAdd : PyData → PyData → Sm M
  | .int i, .int j => sret (.fz (.int (i + j)))
  | .list a, .list b => if a.length + b.length ≤ 16777216 then sret (.ml ((a ++ b).map .fz)) else sfail
  | .tuple a, .tuple b => if a.length + b.length ≤ 16777216 then sret (.fz (.tuple (a ++ b))) else sfail
  | _, _ => sfail
def sSub : PyData → PyData → Sm PyData
  | .int i, .int j => sret (.int (i - j))
  | _, _ => sfail
def mulOk (i j : Int) : Prop := (-(2 ^ 64) < i ∧ i < 2 ^ 64) ∨ (-(2 ^ 64) < j ∧ j < 2 ^ 64) ∨ i.natAbs.log2 + j.natAbs.log2 < 1000000
instance (i j : Int) : Decidable (mulOk i j) := by unfold mulOk; exact inferInstance
def sMul : PyData → PyData → Sm M
  | .int i, .int j => if mulOk i j then sret (.fz (.int (i * j))) else sfail
  | .list a, .int k => if k < 1000000 ∧ a.length * k.toNat ≤ 16777216 ∧ -1000000 < k then sret (.ml ((List.replicate k.toNat a).flatten.map .fz)) else sfail
  | _, _ => sfail
def sDiv : PyData → PyData → Sm PyData
  | .int i, .int j => if 0 < j ∧ (j < 1073741824 ∨ j.natAbs.log2 < 9000) then sret (.int (i / j)) else sfail
  | _, _ => sfail
def sMod : PyData → PyData → Sm PyData
  | .int i, .int j => if 0 < j then sret (.int (i % j)) else sfail
  | _, _ => sfail
def sNeg : PyData → Sm PyData
  | .int i => sret (.int (-i))
  | _ => sfail
section
variable {X : Cx} {Ex : XK} {q : Bool} {e a b : Expr} {pos : Pos} {fa fb : Sm PyData}
theorem no_run {α β : Type} {R : RR α β} {K mg} {σ : L2.St} {W : Wl} {H : Hp} {Q : β → Hp → Prop} (h : Run K mg Ex q R σ W H sfail Q) : False := h
theorem ite_run {α β : Type} {R : RR α β} {K mg} {σ : L2.St} {W : Wl} {H : Hp} {Q : β → Hp → Prop} {c : Prop} [Decidable c] {f : Sm α} (h : Run K mg Ex q R σ W H (if c then f else sfail) Q) : c ∧ Run K mg Ex q R σ W H f Q := by
  by_cases hc : c
  · rw [if_pos hc] at h
    exact ⟨hc, h⟩
  · rw [if_neg hc] at h
    exact (no_run h).elim
theorem ge_op {op : Operator} {r : R2} {γ : Type} {R : RR γ V} {g : PyData → PyData → Sm γ} (ho : OpR X (binaryOp op) r) (ha : GE X Ex q RF a fa) (hb : GE X Ex q RF b fb)
    (hr : ∀ d e x y W H σ Q, Sat X.K X.mg W H σ → SzOk H → Rp W.F H d x → Rp W.F H e y → Run X.K X.mg Ex q R σ W H (g d e) Q → r x y H (fun v H' => SzOk H' → Q v H')) :
    GE X Ex q R (.BinOp a op b pos) (bd fa fun d => bd fb fun e => g d e) :=
  pe_weak (pe_op ho ha hb) fun σ H Q z h => tG.bin h RF_nil fun d e x y W H' S z' h1 h2 k => hr d e x y W H' σ Q S z' h1 h2.2 k
theorem ge_add (ha : GE X Ex q RF a fa) (hb : GE X Ex q RF b fb) : GE X Ex q RE (.BinOp a .Add b pos) (bd fa fun d => bd fb fun e => sAdd d e) := by
  refine ge_op (OpR.or op_add (OpR.or op_cat op_catX)) ha hb fun d e x y W H σ Q S z h1 h2 k => ?_
  cases d with
  | int i =>
    cases e with
    | int j =>
      cases h1
      cases h2
      exact .inl ⟨_, _, rfl, rfl, fun z2 => k.doneE S z2 rfl⟩
    | _ => exact (no_run k).elim
  | list ds =>
    cases e with
    | list es =>
      obtain ⟨c, k⟩ := ite_run (c := ds.length + es.length ≤ 16777216) k
      obtain ⟨p, vs, e1, f1, l1, r1⟩ := h1
      obtain ⟨p2, us, e2, f2, l2, r2⟩ := h2
      subst e1 e2
      refine .inr (.inl ⟨p, p2, vs, us, rfl, rfl, l1, l2, by rw [RpL.length r1, RpL.length r2, sizeLine_eq]; exact c, fun n hn z2 => k.newL S (RpL.append r1 r2) hn z2⟩)
    | _ => exact (no_run k).elim
  | tuple ds =>
    cases e with
    | tuple es =>
      obtain ⟨c, k⟩ := ite_run (c := ds.length + es.length ≤ 16777216) k
      obtain ⟨p, vs, e1, f1, l1, r1⟩ := h1
      obtain ⟨p2, us, e2, f2, l2, r2⟩ := h2
      subst e1 e2
      have ra := RpL.append r1 r2
      refine .inr (.inr ⟨p, p2, vs, us, rfl, rfl, l1.sq, l2.sq, by rw [RpL.length r1, RpL.length r2, sizeLine_eq]; exact c, fun en z2 => ?_, fun ne en z2 => ?_, fun ne ne2 n o hn ho z2 => k.newTE S ra hn ho z2⟩)
      · subst en
        exact k.doneE S z2 ⟨p2, us, rfl, f2, l2, by simpa using ra⟩
      · subst en
        exact k.doneE S z2 ⟨p, vs, rfl, f1, l1, by simpa using ra⟩
    | _ => exact (no_run k).elim
  | _ => cases e <;> exact (no_run k).elim
theorem ge_sub (ha : GE X Ex q RF a fa) (hb : GE X Ex q RF b fb) : GE X Ex q RF (.BinOp a .Sub b pos) (bd fa fun d => bd fb fun e => sSub d e) := by
  refine ge_op op_sub ha hb fun d e x y W H σ Q S z h1 h2 k => ?_
  cases d with
  | int i =>
    cases e with
    | int j =>
      cases h1
      cases h2
      exact ⟨_, _, rfl, rfl, fun z2 => k.doneF S z2 rfl⟩
    | _ => exact (no_run k).elim
  | _ => cases e <;> exact (no_run k).elim
theorem ge_mod (ha : GE X Ex q RF a fa) (hb : GE X Ex q RF b fb) : GE X Ex q RF (.BinOp a .Mod b pos) (bd fa fun d => bd fb fun e => sMod d e) := by
  refine ge_op op_mod ha hb fun d e x y W H σ Q S z h1 h2 k => ?_
  cases d with
  | int i =>
    cases e with
    | int j =>
      obtain ⟨c, k⟩ := ite_run (c := 0 < j) k
      cases h1
      cases h2
      exact ⟨_, _, rfl, rfl, c, fun z2 => k.doneF S z2 rfl⟩
    | _ => exact (no_run k).elim
  | _ => cases e <;> exact (no_run k).elim
theorem ge_div (ha : GE X Ex q RF a fa) (hb : GE X Ex q RF b fb) : GE X Ex q RF (.BinOp a .FloorDiv b pos) (bd fa fun d => bd fb fun e => sDiv d e) := by
  refine ge_op (OpR.or op_fdiv op_fdivW) ha hb fun d e x y W H σ Q S z h1 h2 k => ?_
  cases d with
  | int i =>
    cases e with
    | int j =>
      obtain ⟨c, k⟩ := ite_run (c := 0 < j ∧ (j < 1073741824 ∨ j.natAbs.log2 < 9000)) k
      cases h1
      cases h2
      rcases c with ⟨c0, c1 | c1⟩
      · exact .inl ⟨_, _, rfl, rfl, ⟨c0, c1⟩, fun z2 => k.doneF S z2 rfl⟩
      · exact .inr ⟨_, _, rfl, rfl, ⟨c0, c1⟩, fun z2 => k.doneF S z2 rfl⟩
    | _ => exact (no_run k).elim
  | _ => cases e <;> exact (no_run k).elim
theorem ge_mul (ha : GE X Ex q RF a fa) (hb : GE X Ex q RF b fb) : GE X Ex q RE (.BinOp a .Mult b pos) (bd fa fun d => bd fb fun e => sMul d e) := by
  refine ge_op (OpR.or op_mul (OpR.or op_mulW op_rep)) ha hb fun d e x y W H σ Q S z h1 h2 k => ?_
  cases d with
  | int i =>
    cases e with
    | int j =>
      obtain ⟨c, k⟩ := ite_run (c := mulOk i j) k
      cases h1
      cases h2
      rcases c with c | c | c
      · exact .inl ⟨_, _, rfl, rfl, .inl c, fun z2 => k.doneE S z2 rfl⟩
      · exact .inl ⟨_, _, rfl, rfl, .inr c, fun z2 => k.doneE S z2 rfl⟩
      · exact .inr (.inl ⟨_, _, rfl, rfl, c, fun z2 => k.doneE S z2 rfl⟩)
    | _ => exact (no_run k).elim
  | list ds =>
    cases e with
    | int j =>
      obtain ⟨c, k⟩ := ite_run (c := j < 1000000 ∧ ds.length * j.toNat ≤ 16777216 ∧ -1000000 < j) k
      obtain ⟨p, vs, e1, f1, l1, r1⟩ := h1
      subst e1
      cases h2
      exact .inr (.inr (⟨p, j, vs, rfl, rfl, l1, by omega, by omega, by rw [RpL.length r1, sizeLine_eq]; exact c.2.1, fun n hn z2 => k.newL S (RpL.rep r1 _) hn z2⟩))
    | _ => exact (no_run k).elim
  | _ => cases e <;> exact (no_run k).elim
theorem ge_neg (ha : GE X Ex q RF a fa) : GE X Ex q RF (.UnaryOp .USub a pos) (bd fa fun d => sNeg d) := by
  refine pe_weak (pe_un un_neg ha) fun σ H Q z h => h.first fun d x W H' r S z' hr k => ?_
  have k := k hr.1
  cases d with
  | int i =>
    cases hr.2
    exact ⟨_, rfl, fun z2 => k.doneF S z2 rfl⟩
  | _ => exact (no_run k).elim
end

/-! ### comparisons -/
def isC (d : PyData) : PyData → Option Bool
  | .none => some (match d with | .none => true | _ => false)
  | .bool b => (match d with
    | .bool c => some (c == b)
    | .none => some false
    | .int _ => some false
    | .str _ => some false
    | .list _ => some false
    | .tuple _ => some false
    | .dict _ => none)
  | _ => none
def cmpS : CmpOp → PyData → PyData → Option Bool
  | .Eq, d, e => if min d.depth e.depth ≤ 60 then some (PyData.eqv d e) else none
  | .NotEq, d, e => if min d.depth e.depth ≤ 60 then some (!PyData.eqv d e) else none
  | .Lt, .int i, .int j => some (decide (i < j))
  | .LtE, .int i, .int j => some (decide (i ≤ j))
  | .Gt, .int i, .int j => some (decide (j < i))
  | .GtE, .int i, .int j => some (decide (j ≤ i))
  | .In, d, .list xs => if min (PyData.depthAll xs) d.depth ≤ 60 then some (xs.any fun y => PyData.eqv y d) else none
  | .In, d, .tuple xs => if min (PyData.depthAll xs) d.depth ≤ 60 then some (xs.any fun y => PyData.eqv y d) else none
  | .NotIn, d, .list xs => if min (PyData.depthAll xs) d.depth ≤ 60 then some (!xs.any fun y => PyData.eqv y d) else none
  | .NotIn, d, .tuple xs => if min (PyData.depthAll xs) d.depth ≤ 60 then some (!xs.any fun y => PyData.eqv y d) else none
  | .Is, d, e => isC d e
  | .IsNot, d, e => (isC d e).map (!·)
  | _, _, _ => none
def rCmp (K : PySem.W.Frag) (op : CmpOp) : R2 := fun x y H Q => ∃ F d e b, RpW K F H d x ∧ RpW K F H e y ∧ cmpS op d e = some b ∧ Q (.bl b) H
theorem RpW.lst {K : PySem.W.Frag} {F : Addr → Prop} {H : Hp} {ds : List PyData} {v : V} (h : RpW K F H (.list ds) v) : ∃ a vs, v = .ref a ∧ SqL K H a vs ∧ RpL F H ds vs := h
section
variable {X : Cx}
theorem isC_ok {K : PySem.W.Frag} {F : Addr → Prop} {H : Hp} {d e : PyData} {b : Bool} {x y : V} (hx : RpW K F H d x) (hy : RpW K F H e y) (c : isC d e = some b) :
    (e = .none ∧ y = .non ∧ b = decide (x = .non)) ∨ ∃ k, e = .bool k ∧ y = .bl k ∧ ((∃ l, x = .bl l ∧ b = decide (l = k)) ∨ ((∀ l, x ≠ .bl l) ∧ b = false)) := by
  cases e with
  | none =>
    refine .inl ⟨rfl, hy, ?_⟩
    cases d with
    | none => cases (show x = .non from hx); cases c; rfl
    | bool _ => cases (show x = .bl _ from hx); cases c; rfl
    | int _ => cases (show x = .int _ from hx); cases c; rfl
    | str _ => cases (show x = .str _ from hx); cases c; rfl
    | list _ => obtain ⟨a, vs, e1, _⟩ := hx; subst e1; cases c; rfl
    | tuple _ => obtain ⟨a, vs, e1, _⟩ := (show Rp F H (.tuple _) x from hx); subst e1; cases c; rfl
    | dict _ => exact (show False from hx).elim
  | bool k =>
    refine .inr ⟨k, rfl, hy, ?_⟩
    cases d with
    | none => cases (show x = .non from hx); cases c; exact .inr ⟨fun _ z => by (cases z), rfl⟩
    | bool l =>
      cases (show x = .bl _ from hx)
      cases c
      exact .inl ⟨l, rfl, by cases l <;> cases k <;> rfl⟩
    | int _ => cases (show x = .int _ from hx); cases c; exact .inr ⟨fun _ z => by (cases z), rfl⟩
    | str _ => cases (show x = .str _ from hx); cases c; exact .inr ⟨fun _ z => by (cases z), rfl⟩
    | list _ => obtain ⟨a, vs, e1, _⟩ := hx; subst e1; cases c; exact .inr ⟨fun _ z => by (cases z), rfl⟩
    | tuple _ => obtain ⟨a, vs, e1, _⟩ := (show Rp F H (.tuple _) x from hx); subst e1; cases c; exact .inr ⟨fun _ z => by (cases z), rfl⟩
    | dict _ => exact (show False from hx).elim
  | _ => cases c
theorem relV_not_bl {x : V} {v : Value} (r : RelV x v) (h : ∀ l, x ≠ .bl l) : ∀ k, v ≠ .bool k := by
  intro k e
  subst e
  cases x with
  | bl l => exact h l rfl
  | non => cases r
  | int _ => obtain ⟨t, e⟩ := r; cases e
  | str _ => obtain ⟨t, e⟩ := r; cases e
  | byt _ => obtain ⟨t, e⟩ := r; cases e
  | flt _ => obtain ⟨t, e⟩ := r; cases e
  | ref _ => cases r
  | ty _ => cases r
end
end TW


set_option Elab.async false
set_option linter.all false
set_option maxRecDepth 100000
set_option maxHeartbeats 2000000
namespace TW
open PySem PySem.Spec PyProof.Rows L2

theorem relV_plain {x : V} {v : Value} (r : RelV x v) (b : Bool) : plainIs v (.bool b) = true := by
  cases x with
  | bl l => cases r; rfl
  | non => cases r; rfl
  | int _ => obtain ⟨t, e⟩ := r; subst e; rfl
  | str _ => obtain ⟨t, e⟩ := r; subst e; rfl
  | byt _ => obtain ⟨t, e⟩ := r; subst e; rfl
  | flt _ => obtain ⟨t, e⟩ := r; subst e; rfl
  | ref _ => cases r; rfl
  | ty _ => cases r; rfl
theorem bd_ret {α : Type} (f : Sm α) : (bd f fun r => sret r) = f := by
  funext d
  unfold bd
  cases f d with
  | ok p => rfl
  | exc c => rfl
  | no => rfl
theorem bd_bd {α β γ : Type} (f : Sm α) (g : α → Sm β) (h : β → Sm γ) : bd (bd f g) h = bd f fun a => bd (g a) h := by
  funext d
  unfold bd
  cases f d with
  | ok p => rfl
  | exc c => rfl
  | no => rfl
theorem ret_bd {α β : Type} (a : α) (g : α → Sm β) : bd (sret a) g = g a := rfl
theorem isC_val {K : PySem.W.Frag} {F : Addr → Prop} {H : Hp} {d e : PyData} {b : Bool} {x y : V} {v u : Value} (hx : RpW K F H d x) (hy : RpW K F H e y) (rx : RelV x v) (ry : RelV y u) (c : isC d e = some b) :
    (u = .none ∧ (v == Value.none) = b) ∨ ∃ k, u = .bool k ∧ (v == Value.bool k) = b := by
  rcases isC_ok hx hy c with ⟨e1, e2, e3⟩ | ⟨k, e1, e2, ⟨l, e3, e4⟩ | ⟨e3, e4⟩⟩
  · subst e2
    cases ry
    exact .inl ⟨rfl, by rw [rx.none_iff, e3]⟩
  · subst e2 e3
    cases ry
    cases rx
    refine .inr ⟨k, rfl, ?_⟩
    rw [e4]
    cases l <;> cases k <;> rfl
  · subst e2
    cases ry
    refine .inr ⟨k, rfl, ?_⟩
    rw [e4]
    exact beq_eq_false_iff_ne.mpr fun z => relV_not_bl rx e3 k z
section
variable {X : Cx}
theorem op_cmp (op : CmpOp) (hu : X.A.units + 64 < cLine) : OpR X (compareOp op) (rCmp X.K op) := by
  intro pins s σ H x y v u Q I rx ry h
  obtain ⟨F, d, e, b, h1, h2, c, k⟩ := h
  have d1 := h1.dp
  have d2 := h2.dp
  obtain ⟨as, r1⟩ := Dp.reads I d x v d1 rx
  obtain ⟨bs, r2⟩ := Dp.reads I e y u d2 ry
  have p1 := Dp.plain d d1
  have p2 := Dp.plain e d2
  have fin : ∀ b', b' = b → EP X pins σ Q (.bool b') s := fun b' eb => ⟨.bl b, H, I, by rw [eb] <;> rfl, k⟩
  have twoI : ∀ {i j : Int}, d = .int i → e = .int j → ∃ t t', v = .int i t ∧ u = .int j t' := fun {i j} e1 e2 => by
    subst e1 e2
    cases (show x = .int i from h1)
    cases (show y = .int j from h2)
    obtain ⟨t, rfl⟩ := rx
    obtain ⟨t', rfl⟩ := ry
    exact ⟨t, t', rfl, rfl⟩
  have pl : ∀ {xs : List PyData}, (PyData.list xs).plain = true → PyData.plainAll xs = true := fun h => by simpa [PyData.plain] using h
  have plt : ∀ {xs : List PyData}, (PyData.tuple xs).plain = true → PyData.plainAll xs = true := fun h => by simpa [PyData.plain] using h
  cases op with
  | Eq =>
    have c' : (if min d.depth e.depth ≤ 60 then some (PyData.eqv d e) else none) = some b := c
    by_cases hm : min d.depth e.depth ≤ 60
    · rw [if_pos hm] at c'
      exact SeqAt.eq_plain r1 r2 p1 p2 (by omega) (fin _ (Option.some.inj c'))
    · rw [if_neg hm] at c'
      cases c'
  | NotEq =>
    have c' : (if min d.depth e.depth ≤ 60 then some (!PyData.eqv d e) else none) = some b := c
    by_cases hm : min d.depth e.depth ≤ 60
    · rw [if_pos hm] at c'
      exact SeqAt.ne_plain r1 r2 p1 p2 (by omega) (fin _ (Option.some.inj c'))
    · rw [if_neg hm] at c'
      cases c'
  | Lt =>
    cases d with
    | int i =>
      cases e with
      | int j =>
        obtain ⟨t, t', rfl, rfl⟩ := twoI rfl rfl
        exact lt_int (fin _ (Option.some.inj c))
      | _ => cases c
    | _ => cases e <;> cases c
  | LtE =>
    cases d with
    | int i =>
      cases e with
      | int j =>
        obtain ⟨t, t', rfl, rfl⟩ := twoI rfl rfl
        exact le_int (fin _ (Option.some.inj c))
      | _ => cases c
    | _ => cases e <;> cases c
  | Gt =>
    cases d with
    | int i =>
      cases e with
      | int j =>
        obtain ⟨t, t', rfl, rfl⟩ := twoI rfl rfl
        exact gt_int (fin _ (Option.some.inj c))
      | _ => cases c
    | _ => cases e <;> cases c
  | GtE =>
    cases d with
    | int i =>
      cases e with
      | int j =>
        obtain ⟨t, t', rfl, rfl⟩ := twoI rfl rfl
        exact ge_int (fin _ (Option.some.inj c))
      | _ => cases c
    | _ => cases e <;> cases c
  | In =>
    cases e with
    | list xs =>
      have c' : (if min (PyData.depthAll xs) d.depth ≤ 60 then some (xs.any fun y => PyData.eqv y d) else none) = some b := by cases d <;> exact c
      by_cases hm : min (PyData.depthAll xs) d.depth ≤ 60
      · rw [if_pos hm] at c'
        exact SeqAt.in_list_data r2 r1 (pl p2) p1 (by omega) (fin _ (Option.some.inj c'))
      · rw [if_neg hm] at c'
        cases c'
    | tuple xs =>
      have c' : (if min (PyData.depthAll xs) d.depth ≤ 60 then some (xs.any fun y => PyData.eqv y d) else none) = some b := by cases d <;> exact c
      by_cases hm : min (PyData.depthAll xs) d.depth ≤ 60
      · rw [if_pos hm] at c'
        exact SeqAt.in_tuple_data r2 r1 (plt p2) p1 (by omega) (fin _ (Option.some.inj c'))
      · rw [if_neg hm] at c'
        cases c'
    | _ => cases d <;> cases c
  | NotIn =>
    cases e with
    | list xs =>
      have c' : (if min (PyData.depthAll xs) d.depth ≤ 60 then some (!xs.any fun y => PyData.eqv y d) else none) = some b := by cases d <;> exact c
      by_cases hm : min (PyData.depthAll xs) d.depth ≤ 60
      · rw [if_pos hm] at c'
        exact SeqAt.notIn_list_data r2 r1 (pl p2) p1 (by omega) (fin _ (Option.some.inj c'))
      · rw [if_neg hm] at c'
        cases c'
    | tuple xs =>
      have c' : (if min (PyData.depthAll xs) d.depth ≤ 60 then some (!xs.any fun y => PyData.eqv y d) else none) = some b := by cases d <;> exact c
      by_cases hm : min (PyData.depthAll xs) d.depth ≤ 60
      · rw [if_pos hm] at c'
        exact SeqAt.notIn_tuple_data r2 r1 (plt p2) p1 (by omega) (fin _ (Option.some.inj c'))
      · rw [if_neg hm] at c'
        cases c'
    | _ => cases d <;> cases c
  | Is =>
    have c' : isC d e = some b := by cases d <;> cases e <;> exact c
    rcases isC_val h1 h2 rx ry c' with ⟨e1, e2⟩ | ⟨z, e1, e2⟩
    · subst e1
      exact is_none_gen (fin _ e2)
    · subst e1
      exact wpAny_is_plain (relV_plain rx z) (fin _ e2)
  | IsNot =>
    have c' : (isC d e).map (!·) = some b := by cases d <;> cases e <;> exact c
    obtain ⟨b', c1, c2⟩ := Option.map_eq_some_iff.mp c'
    rcases isC_val h1 h2 rx ry c1 with ⟨e1, e2⟩ | ⟨z, e1, e2⟩
    · subst e1
      exact isnot_none_gen (fin _ (by rw [e2]; exact c2))
    · subst e1
      exact wpAny_isNot_plain (relV_plain rx z) (by show EP X pins σ Q (.bool (v != Value.bool z)) s; rw [bne]; exact fin _ (by rw [e2]; exact c2))
end
/-! ### comparisons as values, as tests -/
def sCmp (op : CmpOp) (d e : PyData) : Sm Bool := sopt (cmpS op d e)
section
variable {X : Cx} {Ex : XK} {q : Bool} {e a b c : Expr} {pos : Pos} {fa fb fc : Sm PyData} {op op' : CmpOp}
theorem opt_run {α β : Type} {R : RR α β} {K mg} {σ : L2.St} {W : Wl} {H : Hp} {Q : β → Hp → Prop} {o : Option α} (h : Run K mg Ex q R σ W H (sopt o) Q) : ∃ a, o = some a ∧ Run K mg Ex q R σ W H (sret a) Q := by
  cases o with
  | none => exact (no_run h).elim
  | some a => exact ⟨a, rfl, h⟩
theorem bd_opt {α β γ : Type} {R : RR γ β} {K mg} {σ : L2.St} {W : Wl} {H : Hp} {Q : β → Hp → Prop} {o : Option α} {g : α → Sm γ} (h : Run K mg Ex q R σ W H (bd (sopt o) g) Q) : ∃ a, o = some a ∧ Run K mg Ex q R σ W H (g a) Q := by
  cases o with
  | none => exact (no_run h).elim
  | some a => exact ⟨a, rfl, h⟩
/-- a test -/
theorem gt_cmp (hu : X.A.units + 64 < cLine) (ha : GE X Ex q RF a fa) (hb : GE X Ex q RO b fb) (hm : behindInMarks op b = false) : GT X Ex q (.Compare a [op] [b] pos) (bd fa fun d => bd fb fun e => sCmp op d e) := by
  refine pt_weak (pt_cmpR (op_cmp op hu) ha hb hm) fun σ H Q z h => tG.bin h RO_nil fun d e x y W H' S z' h1 h2 k => ?_
  obtain ⟨r, er, k⟩ := opt_run k
  exact ⟨W.F, d, e, r, h1.view, h2.2, er, r, rfl, fun z2 => k.doneB S z2⟩
theorem ge_cmp (hu : X.A.units + 64 < cLine) (ha : GE X Ex q RF a fa) (hb : GE X Ex q RO b fb) (hm : behindInMarks op b = false) : GE X Ex q RF (.Compare a [op] [b] pos) (bd fa fun d => bd fb fun e => bd (sCmp op d e) fun r => sret (.bool r)) := by
  refine pe_weak (pe_cmpR (op_cmp op hu) ha hb hm) fun σ H Q z h => tG.bin h RO_nil fun d e x y W H' S z' h1 h2 k => ?_
  obtain ⟨r, er, k⟩ := bd_opt k
  exact ⟨W.F, d, e, r, h1.view, h2.2, er, fun z2 => k.doneF S z2 rfl⟩
/-- a op b op' c -/
def sChain (op op' : CmpOp) (fa fb fc : Sm PyData) : Sm Bool := bd fa fun d => bd fb fun e => bd (sCmp op d e) fun r => if r = true then bd fc fun f => sCmp op' e f else sret false
theorem tG.three {α δ : Type} {R3 : RR α δ} {g : Bool → α} {σ : L2.St} {H : Hp} {Q : δ → Hp → Prop} {Q' : V → Hp → Prop} {K : PySem.W.Frag} (eK : X.K = K)
    (h : tG X Ex q R3 (bd (sChain op op' fa fb fc) fun r => sret (g r)) σ H Q) (k : ∀ r W H', Sat X.K X.mg W H' σ → SzOk H' → Run X.K X.mg Ex q R3 σ W H' (sret (g r)) Q → Q' (.bl r) H') :
    tChain (rCmp K op) (rCmp K op') (tG X Ex q RF fa) (tG X Ex q RF fb) (tG X Ex q RO fc) σ H Q' := by
  subst eK
  have h' : tG X Ex q R3 (bd fa fun d => bd fb fun e => bd (bd (sCmp op d e) fun r => if r = true then bd fc fun f => sCmp op' e f else sret false) fun r => sret (g r)) σ H Q := by
    have h1 := h
    unfold sChain at h1
    simp only [bd_bd] at h1 ⊢
    exact h1
  refine tG.bin h' RF_nil fun d e x y W H' S z' h1 h2 k1 => ?_
  cases er : cmpS op d e with
  | none =>
    unfold sCmp at k1
    rw [er] at k1
    exact (no_run k1).elim
  | some r =>
    unfold sCmp at k1
    rw [er] at k1
    refine ⟨W.F, d, e, r, h1.view, h2.2.view, er, r, rfl, ?_⟩
    cases r with
    | false =>
      rw [if_neg Bool.false_ne_true]
      exact k false W H' S z' k1
    | true =>
      rw [if_pos rfl]
      have k2 : Run X.K X.mg Ex q R3 σ W H' (bd fc fun f => bd (sopt (cmpS op' e f)) fun r => sret (g r)) Q := by
        have k3 : Run X.K X.mg Ex q R3 σ W H' (bd (bd fc fun f => sCmp op' e f) fun r => sret (g r)) Q := k1
        rw [bd_bd] at k3
        exact k3
      refine ⟨W, S, k2.first fun f v W2 H2 r2 e2 S2 z2 hr2 st qt => ?_⟩
      have en := hr2.1
      subst en
      have st' := st.less (O2 := own W2) fun x y => .inl y
      have k3 := k2.next e2 st' qt
      obtain ⟨r', er', k3⟩ := bd_opt k3
      exact ⟨W2.F, e, f, r', (S.rp st' h2.2).view, hr2.2, er', k r' W2 H2 S2 z2 k3⟩
theorem gt_chain (hu : X.A.units + 64 < cLine) (ha : GE X Ex q RF a fa) (hb : GE X Ex q RF b fb) (hc : GE X Ex q RO c fc) (hm : lastMarks [op, op'] [b, c] = false) : GT X Ex q (.Compare a [op, op'] [b, c] pos) (sChain op op' fa fb fc) := by
  refine pt_weak (pt_chain (op_cmp op hu) (op_cmp op' hu) ha hb hc hm) fun σ H Q z h => ?_
  refine tG.three (g := fun r => r) rfl (R3 := RB) (Q := Q) (by rw [bd_ret]; exact h) fun r W H' S z' k => ⟨r, rfl, fun z2 => k.doneB S z2⟩
theorem ge_chain (hu : X.A.units + 64 < cLine) (ha : GE X Ex q RF a fa) (hb : GE X Ex q RF b fb) (hc : GE X Ex q RO c fc) (hm : lastMarks [op, op'] [b, c] = false) : GE X Ex q RF (.Compare a [op, op'] [b, c] pos) (bd (sChain op op' fa fb fc) fun r => sret (.bool r)) := by
  refine pe_weak (pe_chain (op_cmp op hu) (op_cmp op' hu) ha hb hc hm) fun σ H Q z h => ?_
  exact tG.three (g := fun r => PyData.bool r) rfl h fun r W H' S z' k z2 => k.doneF S z2 rfl
end
end TW


set_option Elab.async false
set_option linter.all false
set_option maxRecDepth 100000
set_option maxHeartbeats 2000000
namespace TW
open PySem PySem.Spec PyProof.Rows L2

section
variable {K : PySem.W.Frag} {mg : Str → Option Value} {Ex : XK} {q : Bool} {α β γ δ ε ζ : Type} {R3 : RR α β} {R1 : RR γ δ} {σ : L2.St} {W W1 : Wl} {H H1 : Hp} {Q : β → Hp → Prop} {Q1 : δ → Hp → Prop}
/-- a part in the middle, T pending -/
theorem Run.sub {F : Sm α} {f1 : Sm γ} {g1 : γ → Sm α} {T : List Addr} (h : Run K mg Ex q R3 σ W H F Q) (eF : F W.ev = bd f1 g1 W1.ev) (st : Stp (own W) W.F H (fun x => own W1 x ∨ x ∈ T) W1.F H1)
    (k : ∀ a v W2 H2 r2, f1 W1.ev = .ok (a, W2.ev) → Sat K mg W2 H2 σ → SzOk H2 → R1 K mg W2 H2 a v r2 → Stp (own W1) W1.F H1 (fun x => own W2 x ∨ x ∈ r2) W2.F H2 → (q = true → Quiet W1 W2 H1 H2) → Q1 v H2) :
    Run K mg Ex q R1 σ W1 H1 f1 Q1 := by
  unfold Run at h ⊢
  rw [eF] at h
  split
  · rename_i a d' e
    intro v W' H' r a1 a2 a3 a4 a5 a6
    exact k a v W' H' r (by rw [e, a1]) a2 a3 a4 a5 a6
  · rename_i c e
    have e1 : bd f1 g1 W1.ev = .exc c := by unfold bd; rw [e]
    rw [e1] at h
    intro H' kk
    refine h H' fun x o hx hn => kk x o (st.out x o hx hn) fun z => ?_
    rcases st.onew x (.inl z) with w | w
    · exact hn w
    · rw [hx] at w; cases w
  · rename_i e
    have e1 : bd f1 g1 W1.ev = .no := by unfold bd; rw [e]
    rw [e1] at h
    exact h
/-- the end, by the whole's value -/
theorem Run.fin {F : Sm α} {a : α} {d' : Ev} (h : Run K mg Ex q R3 σ W H F Q) (e : F W.ev = .ok (a, d')) : ∀ v W' H' r, W'.ev = d' → Sat K mg W' H' σ → SzOk H' → R3 K mg W' H' a v r → Stp (own W) W.F H (fun x => own W' x ∨ x ∈ r) W'.F H' → (q = true → Quiet W W' H H') → Q v H' := by
  unfold Run at h
  rw [e] at h
  exact h
end

/-! ### tests -/
def GW (X : Cx) (Ex : XK) (q : Bool) (e : Expr) (f : Sm Bool) : Prop := PW X e (tG X Ex q RB f)
def sTru : PyData → Sm Bool
  | .none => sret false
  | .bool b => sret b
  | .int i => sret (i != 0)
  | .list xs => sret (!xs.isEmpty)
  | .tuple xs => sret (!xs.isEmpty)
  | _ => sfail
def sNot (f : Sm Bool) : Sm Bool := bd f fun r => sret (!r)
def sAnd (f g : Sm Bool) : Sm Bool := bd f fun r => if r = true then g else sret false
def sOr (f g : Sm Bool) : Sm Bool := bd f fun r => if r = true then sret true else g
def sIf {α : Type} (f : Sm Bool) (g h : Sm α) : Sm α := bd f fun r => if r = true then g else h
/-- a value that must be a bool -/
def sBl : PyData → Sm Bool
  | .bool b => sret b
  | _ => sfail
section
variable {X : Cx} {Ex : XK} {q : Bool} {e a b c : Expr} {rest : List Expr} {pos : Pos} {fa fb fc : Sm PyData} {ta tb : Sm Bool}
theorem isEmpty_len {F : Addr → Prop} {H : Hp} {ds : List PyData} {vs : List V} (r : RpL F H ds vs) : vs.isEmpty = ds.isEmpty := by
  cases ds with
  | nil => cases r; rfl
  | cons d ds => obtain ⟨v, r', e, _⟩ := r; subst e; rfl
theorem gt_truth (ha : GE X Ex q RO a fa) (he : ∀ whole, isTrue a X.env whole = (do let v ← whole; standAt a.pos; holding [v] (truthy v))) : GT X Ex q a (bd fa sTru) := by
  refine pt_weak (pt_truth ha he) fun σ H Q z h => h.first fun d x W H' r S z' hr k => ?_
  have k := k hr.1
  cases d with
  | none => cases (show x = .non from hr.2); exact ⟨false, rfl, fun z2 => k.doneB S z2⟩
  | bool b => cases (show x = .bl b from hr.2); exact ⟨b, rfl, fun z2 => k.doneB S z2⟩
  | int i => cases (show x = .int i from hr.2); exact ⟨_, rfl, fun z2 => k.doneB S z2⟩
  | list ds =>
    obtain ⟨p, vs, e1, l, r1⟩ := hr.2
    subst e1
    exact ⟨_, .inl ⟨vs, l, by rw [isEmpty_len r1]⟩, fun z2 => k.doneB S z2⟩
  | tuple ds =>
    obtain ⟨p, vs, e1, f1, l, r1⟩ := (show Rp W.F H' (.tuple ds) x from hr.2)
    subst e1
    exact ⟨_, .inr (.inl ⟨vs, l.sq, by rw [isEmpty_len r1]⟩), fun z2 => k.doneB S z2⟩
  | _ => exact (no_run k).elim
theorem gt_not (ha : GT X Ex q a ta) : GT X Ex q (.UnaryOp .Not a pos) (sNot ta) :=
  pt_weak (pt_not ha) fun σ H Q z h => h.first fun d x W H' r S z' hr k => by
    have k := k hr.1
    cases hr.2
    exact fun z2 => k.doneB S z2
theorem gw_pt {f : Sm Bool} (h : GW X Ex q e f) : GT X Ex q e f := PW.pt h
theorem gw_and1 (ha : GT X Ex q a ta) : GW X Ex q (.BoolOp .And [a] pos) ta := pw_and1 ha
theorem gw_or1 (ha : GT X Ex q a ta) : GW X Ex q (.BoolOp .Or [a] pos) ta := pw_or1 ha
theorem gw_and (ha : GT X Ex q a ta) (hb : GW X Ex q (.BoolOp .And (b :: rest) pos) tb) : GW X Ex q (.BoolOp .And (a :: b :: rest) pos) (sAnd ta tb) := by
  refine pw_weak (pw_and ha hb) fun σ H Q z h => h.first fun d x W H' r S z' hr k => ?_
  have k := k hr.1
  cases hr.2
  cases d with
  | true => exact ⟨W, S, k.mono fun v H' y _ => y⟩
  | false => exact fun z2 => k.doneB S z2
theorem gw_or (ha : GT X Ex q a ta) (hb : GW X Ex q (.BoolOp .Or (b :: rest) pos) tb) : GW X Ex q (.BoolOp .Or (a :: b :: rest) pos) (sOr ta tb) := by
  refine pw_weak (pw_or ha hb) fun σ H Q z h => h.first fun d x W H' r S z' hr k => ?_
  have k := k hr.1
  cases hr.2
  cases d with
  | false => exact ⟨W, S, k.mono fun v H' y _ => y⟩
  | true => exact fun z2 => k.doneB S z2
/-- and, or, not as values: bools alone -/
def sAndV (f g : Sm PyData) : Sm PyData := bd f fun d => bd (sBl d) fun r => if r = true then g else sret (.bool false)
def sOrV (f g : Sm PyData) : Sm PyData := bd f fun d => bd (sBl d) fun r => if r = true then sret (.bool true) else g
def sNotV (f : Sm PyData) : Sm PyData := bd f fun d => bd (sBl d) fun r => sret (.bool (!r))
theorem bl_run {α β : Type} {R : RR α β} {K mg} {σ : L2.St} {W : Wl} {H : Hp} {Q : β → Hp → Prop} {d : PyData} {g : Bool → Sm α} (h : Run K mg Ex q R σ W H (bd (sBl d) g) Q) : ∃ b, d = .bool b ∧ Run K mg Ex q R σ W H (g b) Q := by
  cases d with
  | bool b => exact ⟨b, rfl, h⟩
  | _ => exact (no_run h).elim
theorem ge_one {op : BoolOp} (h : GE X Ex q RF a fa) : GE X Ex q RF (.BoolOp op [a] pos) fa := pe_one h
theorem ge_and (ha : GE X Ex q RF a fa) (hb : GE X Ex q RF (.BoolOp .And (b :: rest) pos) fb) : GE X Ex q RF (.BoolOp .And (a :: b :: rest) pos) (sAndV fa fb) := by
  refine pe_weak (pe_and ha hb) fun σ H Q z h => h.first fun d x W H' r S z' hr k => ?_
  obtain ⟨bb, e1, kk⟩ := bl_run (k hr.1)
  subst e1
  cases (show x = .bl bb from hr.2)
  refine ⟨bb, rfl, ?_⟩
  cases bb with
  | true => exact ⟨W, S, kk.mono fun v H' y _ => y⟩
  | false => exact fun z2 => kk.doneF S z2 rfl
theorem ge_or (ha : GE X Ex q RF a fa) (hb : GE X Ex q RF (.BoolOp .Or (b :: rest) pos) fb) : GE X Ex q RF (.BoolOp .Or (a :: b :: rest) pos) (sOrV fa fb) := by
  refine pe_weak (pe_or ha hb) fun σ H Q z h => h.first fun d x W H' r S z' hr k => ?_
  obtain ⟨bb, e1, kk⟩ := bl_run (k hr.1)
  subst e1
  cases (show x = .bl bb from hr.2)
  refine ⟨bb, rfl, ?_⟩
  cases bb with
  | false => exact ⟨W, S, kk.mono fun v H' y _ => y⟩
  | true => exact fun z2 => kk.doneF S z2 rfl
theorem ge_not (ha : GE X Ex q RF a fa) : GE X Ex q RF (.UnaryOp .Not a pos) (sNotV fa) := by
  refine pe_weak (pe_not ha) fun σ H Q z h => h.first fun d x W H' r S z' hr k => ?_
  obtain ⟨bb, e1, kk⟩ := bl_run (k hr.1)
  subst e1
  cases (show x = .bl bb from hr.2)
  exact ⟨bb, rfl, fun z2 => kk.doneF S z2 rfl⟩
theorem ge_if {α : Type} {R : RR α V} {f g : Sm α} (hc : GT X Ex q c ta) (ha : GE X Ex q R a f) (hb : GE X Ex q R b g) : GE X Ex q R (.IfExp c a b pos) (sIf ta f g) := by
  refine pe_weak (pe_ifExp hc ha hb) fun σ H Q z h => h.first fun d x W H' r S z' hr k => ?_
  have k := k hr.1
  cases hr.2
  cases d with
  | true => exact ⟨W, S, k.mono fun v H' y _ => y⟩
  | false => exact ⟨W, S, k.mono fun v H' y _ => y⟩
end

/-! ### displays -/
def RLF (n : Nat) : RR (List PyData) (List V) := fun K mg W H ds vs r => r = [] ∧ RpL W.F H ds vs ∧ ds.length = n
def RLE (n : Nat) : RR (List M) (List V) := fun K mg W H ms vs r => RpMs K mg W.F H ms vs r ∧ r.Nodup ∧ (∀ a ∈ r, ¬ W.F a ∧ ¬ own W a) ∧ ms.length = n
def sNilF : Sm (List PyData) := sret []
def sConsF (f : Sm PyData) (g : Sm (List PyData)) : Sm (List PyData) := bd f fun d => bd g fun ds => sret (d :: ds)
def sNilE : Sm (List M) := sret []
def sConsE (f : Sm M) (g : Sm (List M)) : Sm (List M) := bd f fun d => bd g fun ds => sret (d :: ds)
def notStar : Expr → Bool
  | .Starred .. => false
  | _ => true
theorem star_cons {e : Expr} (h : notStar e = true) (es : List Expr) (env : PySem.Env) : starEach (e :: es) env = (false, eval e env) :: starEach es env := by
  cases e <;> first | rfl | cases h
theorem star_plain (pos : Pos) (env : PySem.Env) : ∀ es : List Expr, es.all notStar = true → (backTo pos (starEach es env)).any (·.1) = false
  | [], _ => rfl
  | e :: es, h => by
    have h' : notStar e = true ∧ es.all notStar = true := by simpa [List.all_cons] using h
    rw [star_cons h'.1]
    exact star_plain pos env es h'.2
section
variable {X : Cx} {Ex : XK} {q : Bool} {e : Expr} {es : List Expr} {pos : Pos} {n : Nat}
theorem ga_nilF : GA X Ex q (RLF 0) [] sNilF := pa_weak pa_nil fun σ H Q z ⟨W, S, h⟩ z2 => h.done S z2 ⟨rfl, rfl, rfl⟩ rfl
theorem ga_consF {f : Sm PyData} {g : Sm (List PyData)} (h1 : GE X Ex q RF e f) (h2 : GA X Ex q (RLF n) es g) (hs : notStar e = true) : GA X Ex q (RLF (n + 1)) (e :: es) (sConsF f g) := by
  refine pa_weak (pa_cons h1 h2 (star_cons hs es X.env)) fun σ H Q z h => tG.bin h (fun K mg W H a v r y => y.1) fun d ds x xs W H' S z' r1 r2 k z2 => ?_
  exact k.done S z2 ⟨rfl, ⟨x, xs, rfl, r1, r2.2.1⟩, by rw [List.length_cons, r2.2.2]⟩ rfl
theorem ge_tup {k : Nat} {g : Sm (List PyData)} (h : GA X Ex q (RLF n) es g) (hn : n ≤ 1000) : GE X Ex q RF (.Tuple es k pos) (bd g fun ds => sret (.tuple ds)) := by
  refine pe_weak (pe_tupX h) fun σ H Q z ht => ht.first fun ds xs W H' r S z' hr kk => ?_
  have kk := kk hr.1
  refine ⟨by rw [RpL.length hr.2.1, hr.2.2, sizeLine_eq]; omega, fun p o hp ho z2 => kk.newT S hr.2.1 hp ho z2⟩
theorem ga_nilE : GA X Ex q (RLE 0) [] sNilE := pa_weak pa_nil fun σ H Q z ⟨W, S, h⟩ z2 => h.done (r := []) S z2 ⟨⟨rfl, rfl⟩, List.nodup_nil, (fun a y => by cases y), rfl⟩ rfl
theorem ga_consE {f : Sm M} {g : Sm (List M)} (h1 : GE X Ex q RE e f) (h2 : GA X Ex q (RLE n) es g) (hs : notStar e = true) : GA X Ex q (RLE (n + 1)) (e :: es) (sConsE f g) := by
  refine pa_weak (pa_cons h1 h2 (star_cons hs es X.env)) fun σ H Q z ⟨W, S, h⟩ => ⟨W, S, ?_⟩
  refine h.sub (W1 := W) (T := []) rfl (Stp.refl.less fun x y => y.elim id fun y => by cases y) fun m v W1 H1 r1 e1 S1 z1 hr1 st1 q1 => ?_
  refine ⟨W1, S1, ?_⟩
  refine h.sub (W1 := W1) (T := r1) (f1 := g) (g1 := fun ms => sret (m :: ms)) (by show bd f _ W.ev = _; unfold bd; rw [e1]) st1 fun ms vs W2 H2 r2 e2 S2 z2 hr2 st2 q2 z3 => ?_
  obtain ⟨rm, nd1, dj1⟩ := hr1
  obtain ⟨rms, nd2, dj2, ln⟩ := hr2
  have st2' := st2.less (O2 := own W2) fun x y => .inl y
  have th1 := RpM.there m rm
  have notin : ∀ a ∈ r1, ¬ own W2 a ∧ a ∉ r2 := fun a ha => by
    have no : ¬ (own W2 a ∨ a ∈ r2) := fun y => by
      rcases st2.onew a y with w | w
      · exact (dj1 a ha).2 w
      · exact th1 a ha w
    exact ⟨fun y => no (.inl y), fun y => no (.inr y)⟩
  refine h.fin (a := m :: ms) (d' := W2.ev) (by show bd f _ W.ev = _; unfold bd; rw [e1]; show bd g _ W1.ev = _; unfold bd; rw [e2]; rfl) (v :: vs) W2 H2 (r1 ++ r2) rfl S2 z2 ⟨⟨v, vs, r1, r2, rfl, rfl, S1.rpM st2' rm fun a ha => (dj1 a ha).2, rms⟩, ?_, fun a ha => ?_, by rw [List.length_cons, ln]⟩ ?_ fun y => (q1 y).trans (q2 y)
  · refine List.nodup_append.mpr ⟨nd1, nd2, fun a ha b hb e => ?_⟩
    subst e
    exact (notin a ha).2 hb
  · rcases List.mem_append.mp ha with y | y
    · refine ⟨fun w => ?_, (notin a y).1⟩
      rcases st2.fnew a w with w | w | w
      · exact (dj1 a y).1 w
      · exact (dj1 a y).2 w
      · exact th1 a y w
    · exact dj2 a y
  · refine (st1.trans (st2.frame (T := fun x => x ∈ r1))).less fun x y => ?_
    rcases y with y | y
    · exact .inl (.inl y)
    · rcases List.mem_append.mp y with w | w
      · exact .inr w
      · exact .inl (.inr w)
theorem ge_lst {g : Sm (List M)} (h : GA X Ex q (RLE n) es g) (hn : n ≤ 1000) : GE X Ex q RE (.List es pos) (bd g fun ms => sret (.ml ms)) := by
  refine pe_weak (pe_lst h) fun σ H Q z ⟨W, S, ht⟩ => ⟨W, S, ?_⟩
  refine ht.sub (W1 := W) (T := []) rfl (Stp.refl.less fun x y => y.elim id fun y => by cases y) fun ms vs W1 H1 r1 e1 S1 z1 hr1 st1 q1 => ?_
  obtain ⟨rms, nd, dj, ln⟩ := hr1
  have lv : ∀ {xs : List M} {us : List V} {o : List Addr}, RpMs X.K X.mg W1.F H1 xs us o → us.length = xs.length := by
    intro xs
    induction xs with
    | nil => intro us o y; rw [y.1] <;> rfl
    | cons x xs ih =>
      intro us o y
      obtain ⟨v, r, o1, o2, e, _, _, y2⟩ := y
      rw [e, List.length_cons, List.length_cons, ih y2]
  refine ⟨by rw [lv rms, ln, sizeLine_eq]; omega, fun p hp z2 => ?_⟩
  have th := RpMs.there ms rms
  have np : p ∉ r1 := fun y => th p y hp
  refine ht.fin (a := .ml ms) (d' := W1.ev) (by unfold bd; rw [e1]; rfl) (.ref p) W1 _ (p :: r1) rfl (S1.grow hp) z2 ⟨(show RpM X.K X.mg W1.F _ (.ml ms) (.ref p) (p :: r1) from ⟨p, vs, r1, rfl, upd_same, rfl, RpMs.keep (fun _ y => y) (fun a o _ y => keep_upd hp a o y) ms rms fun a _ u y => keep_upd hp a u y⟩), List.nodup_cons.mpr ⟨np, nd⟩, fun a ha => ?_⟩ ?_ fun y => (q1 y).trans ⟨rfl, rfl, keep_upd hp⟩
  · rcases List.mem_cons.mp ha with y | y
    · subst y
      exact ⟨fun w => S1.ft _ w hp, fun w => S1.ownT w hp⟩
    · exact dj a y
  · refine st1.trans ⟨fun _ y => y, fun a u y _ => keep_upd hp a u y, fun _ y => .inl y, fun a y => ?_⟩
    rcases y with y | y
    · exact .inl (.inl y)
    · rcases List.mem_cons.mp y with w | w
      · subst w
        exact .inr hp
      · exact .inl (.inr w)
end
end TW


set_option Elab.async false
set_option linter.all false
set_option maxRecDepth 100000
set_option maxHeartbeats 2000000
namespace TW
open PySem PySem.Spec PyProof.Rows L2

/-! ### xs[::-1] of a tuple -/
section
variable {prog : Program} {w : World} {A : Around} {E : Value → Shared → Prop} {s : Shared}
theorem sliceApplied_rev {sl : Addr} {vl vu vs : Value} {n : Nat} {Q : Int × Int × Nat → Shared → Prop} (hs : s.heap.IsSliceOf sl vl vu vs) (pl : IsPart vl none) (pu : IsPart vu none) (ps : IsPart vs (some (-1)))
    (h : Q ((n : Int) - 1, -1, n) s) : wpAny (model prog w) A (Builtin.Slice.sliceApplied (.ref sl) (pure (n : Int))) Q E s := by
  obtain ⟨os, hos, hcs, hds⟩ := id hs
  unfold Builtin.Slice.sliceApplied Builtin.Slice.sliceFields
  refine wpAny_bind (wpAny_bind (wpAny_field hos hds (x := vl) rfl (wpAny_bind (wpAny_field hos hds (x := vu) rfl (wpAny_bind (wpAny_field hos hds (x := vs) rfl (wpAny_pure ?_)))))))
  refine wpAny_bind (HT.slicePart_ ps ?_)
  show wpAny _ _ (if ((-1 : Int) == 0) = true then _ else _) _ _ s
  rw [if_neg (by decide)]
  refine wpAny_bind (HT.slicePart_ pl (wpAny_bind (HT.slicePart_ pu (wpAny_bind (wpAny_pure ?_)))))
  show wpAny _ _ (pure ((n : Int) - 1, (-1 : Int), Builtin.Slice.slicePlaces ((n : Int) - 1) (-1) (-1))) _ _ s
  have e : Builtin.Slice.slicePlaces ((n : Int) - 1) (-1) (-1) = n := by
    unfold Builtin.Slice.slicePlaces
    rw [if_neg (by decide)]
    by_cases hn : (n : Int) - 1 > -1
    · rw [if_pos hn, show (-(-1) : Int) = 1 by decide, Int.ediv_one]
      omega
    · rw [if_neg hn]
      omega
  rw [e]
  exact wpAny_pure h
theorem pick_rev (xs : Array Value) : ((List.range xs.size).filterMap fun (m : Nat) => xs[(((xs.size : Int) - 1) + (m : Int) * (-1)).toNat]?).toArray = xs.toList.reverse.toArray := by
  have e : (List.range xs.size).filterMap (fun (m : Nat) => xs[(((xs.size : Int) - 1) + (m : Int) * (-1)).toNat]?) = ((List.range xs.size).map fun k => xs.size - 1 - k).filterMap (xs[·]?) := by
    rw [List.filterMap_map]
    have gen : ∀ l : List Nat, (∀ m ∈ l, m < xs.size) → l.filterMap (fun (m : Nat) => xs[(((xs.size : Int) - 1) + (m : Int) * (-1)).toNat]?) = l.filterMap ((fun k => xs[k]?) ∘ fun k => xs.size - 1 - k) := by
      intro l
      induction l with
      | nil => intro _; rfl
      | cons m l ih =>
        intro hl
        have hm := hl m (List.mem_cons_self ..)
        have e2 : (((xs.size : Int) - 1) + (m : Int) * (-1)).toNat = xs.size - 1 - m := by omega
        rw [List.filterMap_cons, List.filterMap_cons, ih fun x hx => hl x (List.mem_cons_of_mem _ hx), e2]
        rfl
    exact gen _ fun m hm => List.mem_range.mp hm
  rw [e, PySem.W.krv_range, List.filterMap_reverse, PySem.W.krv_all]
theorem getItem_tuple_rev {t sl : Addr} {items : Array Value} {vl vu vs : Value} {Q : Value → Shared → Prop} (ht : IsTup s.heap t items) (hs : s.heap.IsSliceOf sl vl vu vs) (pl : IsPart vl none) (pu : IsPart vu none) (ps : IsPart vs (some (-1)))
    (h : Q (.ref s.heap.objs.size) { s with heap := s.heap.push { cls := .type "tuple", data := .seq items.toList.reverse.toArray } }) (hsz : items.size ≤ sizeLine) : wpAny (model prog w) A (getItem (.ref t) (.ref sl)) Q E s := by
  have htake : sizeOk (.seq items.toList.reverse.toArray) := by
    show items.toList.reverse.toArray.size ≤ sizeLine
    rw [List.size_toArray, List.length_reverse, Array.length_toList]
    exact hsz
  obtain ⟨os, hos, hcs, hds⟩ := id hs
  have hTs : s.TypeIs (.ref sl) "slice" := ⟨os, hos, hcs⟩
  unfold getItem
  try with_reducible refine wpAny_holding ?_
  first | refine wpAny_bind (wpAny_pure ?_) | skip
  refine wpAny_bind (wpAny_sequenceKey ht.typeIs (by decide) ?_)
  refine wpAny_bind (wpAny_callSpecial?_slot (name := Str.ofString "__getitem__") ht.typeIs PyProof.Rows.slot_tuple_getitem
    (wpAny_call_entry PyProof.Rows.slot_tuple_getitem ht.typeIs entry_tuple_getitem ?_ (args_tuple_getitem _ _)))
  show wpAny _ _ (Builtin.Tuple.tupleItemsOf (.ref t) >>= _) _ _ s
  refine wpAny_bind (tupleItemsOf_ ht ?_)
  refine wpAny_bind (wpAny_typeOf hTs ?_)
  rw [if_pos (by decide)]
  refine wpAny_bind (sliceApplied_rev hs pl pu ps ?_)
  have hno : ¬ (((((items.size : Int) - 1) == 0 && (-1 : Int) == 1 && items.size == items.size) = true)) := by
    intro q
    rw [Bool.and_eq_true, Bool.and_eq_true] at q
    exact absurd q.1.2 (by decide)
  show wpAny _ _ (if ((((items.size : Int) - 1) == 0 && (-1 : Int) == 1 && items.size == items.size) = true) then _ else _) _ _ s
  rw [if_neg hno, pick_rev]
  first
    | exact wpAny_bind (m := Builtin.Tuple.tupleExact _) (wpAny_newObj_type (wpAny_pure ⟨_, rfl, wpAny_pure h⟩) htake)
    | exact wpAny_bind (m := Builtin.Tuple.tupleExact _) (wpAny_newObj_type (wpAny_bind (wpAny_pure (wpAny_pure ⟨_, rfl, wpAny_pure h⟩))) htake)
    | exact wpAny_bind (wpAny_bind (m := Builtin.Tuple.tupleExact _) (wpAny_newObj_type (wpAny_pure (wpAny_pure ⟨_, rfl, wpAny_pure h⟩)) htake))
    | exact wpAny_bind (wpAny_bind (m := Builtin.Tuple.tupleExact _) (wpAny_newObj_type (wpAny_pure ⟨_, rfl, wpAny_pure h⟩) htake))
end
section
variable {X : Cx}
theorem Vals.rev {xs : List V} {us : List Value} (r : Vals xs us) : Vals xs.reverse us.reverse := by
  induction r with
  | nil => exact .nil
  | cons r t ih =>
    rw [List.reverse_cons, List.reverse_cons]
    exact Vals.append ih (.cons r .nil)
def tRevT (K : PySem.W.Frag) (te : TE) : TE := fun σ H Q => te σ H fun x H1 => ∃ a xs, x = .ref a ∧
  ((SqL K H1 a xs ∧ ∀ p, H1 p = none → Q (.ref p) (upd H1 p (.lst xs.reverse))) ∨ (SqT K H1 a xs ∧ NewT xs.reverse H1 Q))
theorem pe_rev {e : Expr} {te : TE} {k : Nat} {p1 p2 p3 pos : Pos} (he : PE X e te) : PE X (.Subscript e (.Slice none none (some (.UnaryOp .USub (.Constant (.int 1) k p1) p2)) p3) pos) (tRevT X.K te) := by
  refine ⟨fun pins s σ H Q I h => ?_⟩
  refine Subscript_ (thn (he.run pins s σ H _ I h) fun v s1 ⟨x, H1, I1, r1, q1⟩ => ?_)
  obtain ⟨a, xs, ex, hx⟩ := q1
  subst ex
  cases r1
  have hst : PO X (some (.UnaryOp .USub (.Constant (.int 1) k p1) p2)) (tPart (tUn (rU fun i => .int (-i)) (tC (.int 1)))) := po_some (pe_un un_neg pe_int)
  refine wpAny_Slice (thn (po_none.run pins s1 σ H1 (fun o H2 => o = none ∧ H2 = H1) I1 ⟨rfl, rfl⟩) fun vl s2 ⟨l, H2, I2, pl, el, e2⟩ => ?_)
  subst el e2
  refine thn (po_none.run pins s2 σ H2 (fun o H3 => o = none ∧ H3 = H2) I2 ⟨rfl, rfl⟩) fun vu s3 ⟨u, H3, I3, pu, eu, e3⟩ => ?_
  subst eu e3
  refine thn (hst.run pins s3 σ H3 (fun o H4 => o = some (-1) ∧ H4 = H3) I3 ⟨1, rfl, -1, rfl, rfl, rfl⟩) fun vs s4 ⟨o, H4, I4, ps, eo, e4⟩ => ?_
  subst eo e4
  have I5 : Inv X pins σ H4 { s4 with heap := s4.heap.push { cls := .type "slice", data := .fields #[vl, vu, vs] } } := I4.kept (t' := s4.toks) fun b ob q => Heap.get?_push_of_some _ q
  show wpAny (model X.prog X.w) X.A (subscriptTail e (.Slice none none (some (.UnaryOp .USub (.Constant (.int 1) k p1) p2)) p3) (.ref a) (.ref s4.heap.objs.size)) (EP X pins σ Q) X.xe { s4 with heap := s4.heap.push { cls := .type "slice", data := .fields #[vl, vu, vs] } }
  rcases hx with ⟨hx, q⟩ | ⟨hx, q⟩
  · obtain ⟨its, r, ht, hz⟩ := I5.list hx
    have hlen := r.length
    refine tail_any (ops := [.ref a, .ref s4.heap.objs.size]) ht.isList.typeIs (PySem.slot_list_getitem.lookup) ?_ (by with_unfolding_all rfl)
    refine wpAny_getItem_list_slice ht.isList (Heap.IsSliceOf.new _ vl vu vs) pl pu ps (by decide) ?_ (by rw [List.size_toArray]; omega)
    rw [PySem.W.krv_pick]
    refine ⟨.ref _, _, I5.laid (t' := s4.toks) (o := .lst xs.reverse) (fun b ob q => Heap.get?_push_of_some _ q) (Nat.le_refl _) ?_, rfl, q _ (I5.hok.fresh (Nat.le_refl _))⟩
    exact ⟨by rw [List.length_reverse]; exact hz, _, _, Vals.rev r, Heap.get?_push_size _ rfl⟩
  · obtain ⟨its, r, ht, hz⟩ := I5.tuple hx
    have hlen := r.length
    refine tail_any (ops := [.ref a, .ref s4.heap.objs.size]) ht.typeIs (PyProof.Rows.slot_tuple_getitem.lookup) ?_ (by with_unfolding_all rfl)
    refine getItem_tuple_rev ht (Heap.IsSliceOf.new _ vl vu vs) pl pu ps ?_ (by rw [List.size_toArray]; omega)
    exact q.ep I5 (Vals.rev r) (by rw [List.length_reverse]; exact hz) s4.toks
end

/-! ### subscripts, slices -/
def sIx : PyData → PyData → Sm PyData
  | .list xs, .int i => sopt (atI xs i)
  | .tuple xs, .int i => sopt (atI xs i)
  | _, _ => sfail
def cutD (xs : List PyData) (lo hi : Option Int) : List PyData := (xs.drop (HT.sIx xs.length 0 lo)).take (HT.sIx xs.length xs.length hi - HT.sIx xs.length 0 lo)
def sSl : PyData → Option Int → Option Int → Sm M
  | .list xs, lo, hi => sret (.ml ((cutD xs lo hi).map .fz))
  | .tuple xs, lo, hi => sret (.fz (.tuple (cutD xs lo hi)))
  | _, _, _ => sfail
def sRev : PyData → Sm M
  | .list xs => sret (.ml (xs.reverse.map .fz))
  | .tuple xs => sret (.fz (.tuple xs.reverse))
  | _ => sfail
def sInt : PyData → Sm Int
  | .int i => sret i
  | _ => sfail
section
variable {F : Addr → Prop} {H : Hp}
theorem RpL.atI {ds : List PyData} {vs : List V} {i : Int} {d : PyData} (r : RpL F H ds vs) (e : L2.atI ds i = some d) : ∃ v, L2.atI vs i = some v ∧ Rp F H d v := by
  unfold L2.atI at e ⊢
  rw [RpL.length r]
  obtain ⟨j, hj, e⟩ := Option.bind_eq_some_iff.mp e
  obtain ⟨v, h1, h2⟩ := RpL.get r e
  exact ⟨v, by rw [hj]; exact h1, h2⟩
theorem RpL.cut {ds : List PyData} {vs : List V} (r : RpL F H ds vs) (lo hi : Option Int) : RpL F H (cutD ds lo hi) (cutV vs lo hi) := by
  unfold cutD cutV
  rw [RpL.length r]
  exact RpL.take _ (RpL.drop _ r)
end
section
variable {X : Cx} {Ex : XK} {q : Bool} {e a b : Expr} {pos : Pos} {fa fb : Sm PyData}
theorem ix_ok : IxR X (fun x y H Q => rIxL X.K x y H Q ∨ rIxT X.K x y H Q) := ix_list.or ix_tup
theorem RpW.keep {K : PySem.W.Frag} {F F' : Addr → Prop} {H H' : Hp} (m : ∀ a, F a → F' a) (k : ∀ a o, H a = some o → H' a = some o) {d : PyData} {v : V} (h : RpW K F H d v) : RpW K F' H' d v := by
  cases d with
  | list ds =>
    obtain ⟨a, vs, e, l, r⟩ := h
    refine ⟨a, vs, e, ?_, RpL.keep' m k r⟩
    rcases l with (l | ⟨o, l⟩) | l
    · exact .inl (.inl (k _ _ l))
    · exact .inl (.inr ⟨o, k _ _ l⟩)
    · exact .inr l
  | none => exact h
  | bool _ => exact h
  | int _ => exact h
  | str _ => exact h
  | tuple ds => exact Rp.keep (F := F) m (fun a o _ y => k a o y) (.tuple ds) h
  | dict _ => exact h
theorem Run.firstQ {K : PySem.W.Frag} {mg : Str → Option Value} {α β γ δ : Type} {R : RR α β} {R2 : RR γ δ} {σ : L2.St} {W : Wl} {H : Hp} {f : Sm α} {g : α → Sm γ} {Q' : β → Hp → Prop} {Q : δ → Hp → Prop} (h : Run K mg Ex q R2 σ W H (bd f g) Q)
    (k : ∀ a v W' H' r, f W.ev = .ok (a, W'.ev) → Sat K mg W' H' σ → SzOk H' → R K mg W' H' a v r → Stp (own W) W.F H (fun x => own W' x ∨ x ∈ r) W'.F H' → Quiet W W' H H' → Q' v H') : Run K mg Ex true R σ W H f Q' := by
  unfold Run at h ⊢
  split
  · rename_i a d' e
    intro v W' H' r a1 a2 a3 a4 a5 a6
    exact k a v W' H' r (by rw [e, a1]) a2 a3 a4 a5 (a6 rfl)
  · rename_i c e
    have e1 : bd f g W.ev = .exc c := by unfold bd; rw [e]
    rw [e1] at h
    exact h
  · rename_i e
    have e1 : bd f g W.ev = .no := by unfold bd; rw [e]
    rw [e1] at h
    exact h
/-- what is looked at first, then a quiet part -/
theorem tG.binO {α β γ δ : Type} {R2 : RR α β} {R3 : RR γ δ} {fb : Sm α} {g : PyData → α → Sm γ} {σ : L2.St} {H : Hp} {Q : δ → Hp → Prop} {Q' : V → β → Hp → Prop}
    (h : tG X Ex q R3 (bd fa fun d => bd fb fun e => g d e) σ H Q) (nil : ∀ K mg W H a v r, R2 K mg W H a v r → r = [])
    (k : ∀ d e x y W H', Sat X.K X.mg W H' σ → SzOk H' → RpW X.K W.F H' d x → R2 X.K X.mg W H' e y [] → Run X.K X.mg Ex q R3 σ W H' (g d e) Q → Q' x y H') :
    tG X Ex q RO fa σ H (fun x H1 => tG X Ex true R2 fb σ H1 fun y H2 => Q' x y H2) := by
  refine h.first fun d x W H1 r S z hr k1 => ?_
  have k1 := k1 hr.1
  refine ⟨W, S, k1.firstQ fun e y W2 H2 r2 e2 S2 z2 hr2 st qt => ?_⟩
  have en := nil _ _ _ _ _ _ _ hr2
  subst en
  have st' := st.less (O2 := own W2) fun x y => .inl y
  exact k d e x y W2 H2 S2 z2 (hr.2.keep st.mono qt.2.2) hr2 (k1.next e2 st' fun _ => qt)
/-- quiet code may stand anywhere -/
theorem ge_loud {α : Type} {R : RR α V} {f : Sm α} (h : GE X Ex true R e f) : GE X Ex q R e f := by
  refine pe_weak h fun σ H Q z ⟨W, S, ht⟩ => ⟨W, S, ?_⟩
  unfold Run at ht ⊢
  split
  · rename_i a d' e
    rw [e] at ht
    exact fun v W' H' r a1 a2 a3 a4 a5 a6 z2 => ht v W' H' r a1 a2 a3 a4 a5 fun _ => a6 rfl
  · rename_i c e
    rw [e] at ht
    exact ht
  · rename_i e
    rw [e] at ht
    exact ht
def notSlice : Expr → Bool
  | .Slice .. => false
  | _ => true
theorem plain_ix {b : Expr} (h : notSlice b = true) : PlainIx b := by
  intro o i
  cases b <;> first | rfl | cases h
theorem ix_run {d e : PyData} {x y : V} {W : Wl} {H : Hp} {σ : L2.St} {Q : V → Hp → Prop} (S : Sat X.K X.mg W H σ) (h1 : RpW X.K W.F H d x) (h2 : Rp W.F H e y) (k : Run X.K X.mg Ex q RF σ W H (TW.sIx d e) Q) :
    (fun x y H Q => rIxL X.K x y H Q ∨ rIxT X.K x y H Q) x y H (fun v H' => SzOk H' → Q v H') := by
  cases d with
  | list ds =>
    cases e with
    | int i =>
      obtain ⟨d', e1, k⟩ := opt_run k
      obtain ⟨a, vs, e2, l, r⟩ := h1
      subst e2
      cases h2
      obtain ⟨v, q1, q2⟩ := r.atI e1
      exact .inl ⟨a, vs, i, v, rfl, rfl, l, q1, fun z => k.doneF S z q2⟩
    | _ => exact (no_run k).elim
  | tuple ds =>
    cases e with
    | int i =>
      obtain ⟨d', e1, k⟩ := opt_run k
      obtain ⟨a, vs, e2, f, l, r⟩ := (show Rp W.F H (.tuple ds) x from h1)
      subst e2
      cases h2
      obtain ⟨v, q1, q2⟩ := r.atI e1
      exact .inr ⟨a, vs, i, v, rfl, rfl, l.sq, q1, fun z => k.doneF S z q2⟩
    | _ => exact (no_run k).elim
  | _ => cases e <;> exact (no_run k).elim
theorem ge_ixO (ha : GE X Ex q RO a fa) (hb : GE X Ex true RF b fb) (hs : notSlice b = true) : GE X Ex q RF (.Subscript a b pos) (bd fa fun d => bd fb fun e => TW.sIx d e) :=
  pe_weak (pe_ix ix_ok ha hb (plain_ix hs)) fun σ H Q z h => tG.binO h RF_nil fun d e x y W H' S z' h1 h2 k => ix_run S h1 h2.2 k
theorem ge_ixF (ha : GE X Ex q RF a fa) (hb : GE X Ex q RF b fb) (hs : notSlice b = true) : GE X Ex q RF (.Subscript a b pos) (bd fa fun d => bd fb fun e => TW.sIx d e) :=
  pe_weak (pe_ix ix_ok ha hb (plain_ix hs)) fun σ H Q z h => tG.bin h RF_nil fun d e x y W H' S z' h1 h2 k => ix_run S h1.view h2.2 k
/-! slices: quiet parts -/
def GP (X : Cx) (Ex : XK) (e : Option Expr) (f : Sm (Option Int)) : Prop := PO X e (tG X Ex true (fun _ _ _ _ a b r => r = [] ∧ b = a) f)
theorem gp_none : GP X Ex none (sret none) := by
  refine ⟨fun pins s σ H Q I ⟨W, S, h⟩ => po_none.run pins s σ H Q I ?_⟩
  exact h none W H [] rfl S (szOk_of I) ⟨rfl, rfl⟩ (Stp.refl.less fun x z => z.elim id fun y => by cases y) fun _ => .refl
theorem gp_some (hb : GE X Ex true RF b fb) : GP X Ex (some b) (bd fb fun d => bd (sInt d) fun i => sret (some i)) := by
  refine ⟨fun pins s σ H Q I h => ?_⟩
  have hp := po_some hb
  refine thn (hp.run pins s σ H (fun o H' => SzOk H' → Q o H') I ?_) fun u s' ⟨o, H', I', p, k⟩ => ⟨o, H', I', p, k (szOk_of I')⟩
  refine h.first fun d x W H' r S z' hr k => ?_
  have k := k hr.1
  cases d with
  | int i =>
    cases hr.2
    exact ⟨i, rfl, fun z => k.done (r := []) S z ⟨rfl, rfl⟩ rfl⟩
  | _ => exact (no_run k).elim
theorem ge_slice {lo hi : Option Expr} {fl fh : Sm (Option Int)} {p2 : Pos} (ha : GE X Ex q RO a fa) (hl : GP X Ex lo fl) (hh : GP X Ex hi fh) : GE X Ex q RE (.Subscript a (.Slice lo hi none p2) pos) (bd fa fun d => bd fl fun l => bd fh fun u => sSl d l u) := by
  refine pe_weak (pe_slice (SlR.or sl_list sl_tupX) ha hl hh) fun σ H Q z h => ?_
  refine tG.binO h (fun K mg W H a v r y => y.1) fun d l x l' W H' S z' h1 h2 k => ?_
  cases h2.2
  refine ⟨W, S, k.firstQ fun u u' W2 H2 r2 e2 S2 z2 hr2 st qt => ?_⟩
  have en := hr2.1
  subst en
  cases hr2.2
  have k2 := k.next e2 (st.less (O2 := own W2) fun x y => .inl y) fun _ => qt
  have h3 := h1.keep st.mono qt.2.2
  cases d with
  | list ds =>
    obtain ⟨p, vs, e1, lq, r1⟩ := h3
    subst e1
    exact .inl ⟨p, vs, rfl, lq, fun n hn z3 => k2.newL S2 (r1.cut _ _) hn z3⟩
  | tuple ds =>
    obtain ⟨p, vs, e1, f1, lq, r1⟩ := (show Rp W2.F H2 (.tuple ds) x from h3)
    subst e1
    refine .inr ⟨p, vs, rfl, lq.sq, fun hw z3 => ?_, fun hw n o hn ho z3 => k2.newTE S2 (r1.cut _ _) hn ho z3⟩
    have en : cutD ds l u = ds := by
      unfold cutD
      rw [← RpL.length r1, hw.1, hw.2]
      simp [RpL.length r1]
    exact k2.doneE S2 z3 (by rw [en]; exact ⟨p, vs, rfl, f1, lq, r1⟩)
  | _ => exact (no_run k2).elim
theorem ge_rev {k : Nat} {p1 p2 p3 : Pos} (ha : GE X Ex q RO a fa) : GE X Ex q RE (.Subscript a (.Slice none none (some (.UnaryOp .USub (.Constant (.int 1) k p1) p2)) p3) pos) (bd fa fun d => sRev d) := by
  refine pe_weak (pe_rev ha) fun σ H Q z h => h.first fun d x W H' r S z' hr k => ?_
  have k := k hr.1
  have hx := hr.2
  cases d with
  | list ds =>
    obtain ⟨p, vs, e1, lq, r1⟩ := hx
    subst e1
    exact ⟨p, vs, rfl, .inl ⟨lq, fun n hn z3 => k.newL S (RpL.reverse r1) hn z3⟩⟩
  | tuple ds =>
    obtain ⟨p, vs, e1, f1, lq, r1⟩ := (show Rp W.F H' (.tuple ds) x from hx)
    subst e1
    exact ⟨p, vs, rfl, .inr ⟨lq.sq, fun n o hn ho z3 => k.newTE S (RpL.reverse r1) hn ho z3⟩⟩
  | _ => exact (no_run k).elim
end
end TW


set_option Elab.async false
set_option linter.all false
set_option maxRecDepth 100000
set_option maxHeartbeats 2000000
namespace TW
open PySem PySem.Spec PyProof.Rows L2

/-! ### built-ins -/
def sLen : PyData → Sm PyData
  | .list xs => sret (.int xs.length)
  | .tuple xs => sret (.int xs.length)
  | _ => sfail
def sAbs : PyData → Sm PyData
  | .int i => sret (.int (if i < 0 then -i else i))
  | _ => sfail
def sIntOf : PyData → Sm PyData
  | .int i => sret (.int i)
  | .bool k => sret (.int (if k then 1 else 0))
  | _ => sfail
def bools : List PyData → Option (List Bool)
  | [] => some []
  | .bool b :: r => (bools r).map (b :: ·)
  | _ :: _ => none
def intsOf : List PyData → Option (List Int)
  | [] => some []
  | .int b :: r => (intsOf r).map (b :: ·)
  | _ :: _ => none
def sAll : PyData → Sm PyData
  | .list xs => bd (sopt (bools xs)) fun bs => sret (.bool (bs.all id))
  | _ => sfail
def sAny : PyData → Sm PyData
  | .list xs => bd (sopt (bools xs)) fun bs => sret (.bool (bs.any id))
  | _ => sfail
def sSum : PyData → Sm PyData
  | .list xs => bd (sopt (intsOf xs)) fun ns => sret (.int ns.sum)
  | _ => sfail
def sMin2 : PyData → PyData → Sm PyData
  | .int i, .int j => sret (.int (if j < i then j else i))
  | _, _ => sfail
def sMax2 : PyData → PyData → Sm PyData
  | .int i, .int j => sret (.int (if j > i then j else i))
  | _, _ => sfail
def sTupOf : PyData → Sm PyData
  | .list xs => sret (.tuple xs)
  | .tuple xs => sret (.tuple xs)
  | _ => sfail
def sLstOf : PyData → Sm M
  | .list xs => sret (.ml (xs.map .fz))
  | .tuple xs => sret (.ml (xs.map .fz))
  | _ => sfail
def isi (T : String) (d : PyData) : Bool :=
  if T = "int" then d.isInt else if T = "str" then d.isStr else if T = "tuple" then d.isTuple else if T = "list" then d.isList else if T = "bool" then d.isBool else d.isDict
section
variable {F : Addr → Prop} {H : Hp}
theorem RpL.bools : ∀ {ds : List PyData} {vs : List V} {bs : List Bool}, RpL F H ds vs → TW.bools ds = some bs → vs = bs.map V.bl
  | [], _, _, h, e => by cases e; exact h
  | .bool b :: ds, _, bs, h, e => by
    obtain ⟨v, r, e1, h1, h2⟩ := h
    have e' : (TW.bools ds).map (b :: ·) = some bs := e
    obtain ⟨bs', q1, q2⟩ := Option.map_eq_some_iff.mp e'
    subst q2 e1
    cases (show v = .bl b from h1)
    rw [RpL.bools h2 q1] <;> rfl
  | .none :: _, _, _, _, e => by cases e
  | .int _ :: _, _, _, _, e => by cases e
  | .str _ :: _, _, _, _, e => by cases e
  | .list _ :: _, _, _, _, e => by cases e
  | .tuple _ :: _, _, _, _, e => by cases e
  | .dict _ :: _, _, _, _, e => by cases e
theorem RpL.intsOf : ∀ {ds : List PyData} {vs : List V} {bs : List Int}, RpL F H ds vs → TW.intsOf ds = some bs → vs = bs.map V.int
  | [], _, _, h, e => by cases e; exact h
  | .int b :: ds, _, bs, h, e => by
    obtain ⟨v, r, e1, h1, h2⟩ := h
    have e' : (TW.intsOf ds).map (b :: ·) = some bs := e
    obtain ⟨bs', q1, q2⟩ := Option.map_eq_some_iff.mp e'
    subst q2 e1
    cases (show v = .int b from h1)
    rw [RpL.intsOf h2 q1] <;> rfl
  | .none :: _, _, _, _, e => by cases e
  | .bool _ :: _, _, _, _, e => by cases e
  | .str _ :: _, _, _, _, e => by cases e
  | .list _ :: _, _, _, _, e => by cases e
  | .tuple _ :: _, _, _, _, e => by cases e
  | .dict _ :: _, _, _, _, e => by cases e
end
section
variable {X : Cx} {Ex : XK} {q : Bool} {e a b : Expr} {pos p p2 : Pos} {fa fb : Sm PyData} {x : Str} {id T : String} {r : List V → Hp → VK → Prop}
/-- the plain premises of a built-in's name -/
structure Bn (X : Cx) (x : Str) (u : Value) : Prop where
  hg : Gl X x
  hm : X.mg x = none
  hv : bootBuiltins x = some u
  hn : x ≠ "__name__"
  hd : (x == ("__debug__" : Str)) = false
theorem ge_b1 {α β : Type} {R : RR α V} {R2 : RR β V} {f : Sm β} {g : β → Sm α} (N : Bn X x (.builtin id)) (hc : CallR X (.builtin id) r) (ha : GE X Ex q R2 a f) (hs : notStar a = true) (nil : ∀ K mg W H a v r, R2 K mg W H a v r → r = [])
    (k : ∀ d y W H σ Q, Sat X.K X.mg W H σ → SzOk H → R2 X.K X.mg W H d y [] → Run X.K X.mg Ex q R σ W H (g d) Q → r [y] H (fun v H' => SzOk H' → Q v H')) :
    GE X Ex q R (.Call (.Name x p) [a] [] pos) (bd f g) := by
  refine pe_weak (pe_callB hc N.hg N.hm N.hv (pa_cons ha pa_nil (star_cons hs _ _)) N.hn N.hd (star_cons hs _ _) (by rfl)) fun σ H Q z h => ?_
  refine h.first fun d y W H' r' S z' hr kk => ?_
  have en := nil _ _ _ _ _ _ _ hr
  subst en
  exact k d y W H' σ Q S z' hr (kk rfl)
theorem ge_t1 {α β : Type} {R : RR α V} {R2 : RR β V} {f : Sm β} {g : β → Sm α} (N : Bn X x (.type T)) (hc : CallR X (.type T) r) (ha : GE X Ex q R2 a f) (hs : notStar a = true) (nil : ∀ K mg W H a v r, R2 K mg W H a v r → r = [])
    (k : ∀ d y W H σ Q, Sat X.K X.mg W H σ → SzOk H → R2 X.K X.mg W H d y [] → Run X.K X.mg Ex q R σ W H (g d) Q → r [y] H (fun v H' => SzOk H' → Q v H')) :
    GE X Ex q R (.Call (.Name x p) [a] [] pos) (bd f g) := by
  refine pe_weak (pe_callTy hc N.hg N.hm N.hv (pa_cons ha pa_nil (star_cons hs _ _)) N.hn N.hd (star_cons hs _ _) (by rfl)) fun σ H Q z h => ?_
  refine h.first fun d y W H' r' S z' hr kk => ?_
  have en := nil _ _ _ _ _ _ _ hr
  subst en
  exact k d y W H' σ Q S z' hr (kk rfl)
theorem ge_len (N : Bn X x (.builtin "len")) (ha : GE X Ex q RO a fa) (hs : notStar a = true) : GE X Ex q RF (.Call (.Name x p) [a] [] pos) (bd fa sLen) := by
  refine ge_b1 N call_len ha hs RO_nil fun d y W H σ Q S z hr k => ?_
  cases d with
  | list ds =>
    obtain ⟨p, vs, e1, l, r1⟩ := hr.2
    subst e1
    exact ⟨_, _, rfl, .inl ⟨vs, l, rfl⟩, fun z2 => k.doneF S z2 (by rw [RpL.length r1] <;> rfl)⟩
  | tuple ds =>
    obtain ⟨p, vs, e1, f, l, r1⟩ := (show Rp W.F H (.tuple ds) y from hr.2)
    subst e1
    exact ⟨_, _, rfl, .inr ⟨vs, l.sq, rfl⟩, fun z2 => k.doneF S z2 (by rw [RpL.length r1] <;> rfl)⟩
  | _ => exact (no_run k).elim
theorem ge_abs (N : Bn X x (.builtin "abs")) (ha : GE X Ex q RF a fa) (hs : notStar a = true) : GE X Ex q RF (.Call (.Name x p) [a] [] pos) (bd fa sAbs) := by
  refine ge_b1 N call_abs ha hs RF_nil fun d y W H σ Q S z hr k => ?_
  cases d with
  | int i =>
    cases hr.2
    exact ⟨_, rfl, fun z2 => k.doneF S z2 rfl⟩
  | _ => exact (no_run k).elim
theorem ge_intOf (N : Bn X x (.type "int")) (ha : GE X Ex q RF a fa) (hs : notStar a = true) : GE X Ex q RF (.Call (.Name x p) [a] [] pos) (bd fa sIntOf) := by
  refine ge_t1 N call_int1 ha hs RF_nil fun d y W H σ Q S z hr k => ?_
  cases d with
  | int i =>
    cases hr.2
    exact .inl ⟨_, rfl, fun z2 => k.doneF S z2 rfl⟩
  | bool i =>
    cases hr.2
    exact .inr ⟨_, rfl, fun z2 => k.doneF S z2 rfl⟩
  | _ => exact (no_run k).elim
theorem ge_all (hcm : X.calm = true) (N : Bn X x (.builtin "all")) (ha : GE X Ex q RO a fa) (hs : notStar a = true) : GE X Ex q RF (.Call (.Name x p) [a] [] pos) (bd fa sAll) := by
  refine ge_b1 N (cr_all hcm) ha hs RO_nil fun d y W H σ Q S z hr k => ?_
  cases d with
  | list ds =>
    obtain ⟨bs, e0, k⟩ := bd_opt k
    obtain ⟨p, vs, e1, l, r1⟩ := hr.2
    subst e1
    rw [RpL.bools r1 e0] at l
    exact ⟨_, _, rfl, l, fun z2 => k.doneF S z2 rfl⟩
  | _ => exact (no_run k).elim
theorem ge_any (hcm : X.calm = true) (N : Bn X x (.builtin "any")) (ha : GE X Ex q RO a fa) (hs : notStar a = true) : GE X Ex q RF (.Call (.Name x p) [a] [] pos) (bd fa sAny) := by
  refine ge_b1 N (cr_any hcm) ha hs RO_nil fun d y W H σ Q S z hr k => ?_
  cases d with
  | list ds =>
    obtain ⟨bs, e0, k⟩ := bd_opt k
    obtain ⟨p, vs, e1, l, r1⟩ := hr.2
    subst e1
    rw [RpL.bools r1 e0] at l
    exact ⟨_, _, rfl, l, fun z2 => k.doneF S z2 rfl⟩
  | _ => exact (no_run k).elim
theorem ge_sum (hcm : X.calm = true) (N : Bn X x (.builtin "sum")) (ha : GE X Ex q RO a fa) (hs : notStar a = true) : GE X Ex q RF (.Call (.Name x p) [a] [] pos) (bd fa sSum) := by
  refine ge_b1 N (cr_sum hcm) ha hs RO_nil fun d y W H σ Q S z hr k => ?_
  cases d with
  | list ds =>
    obtain ⟨bs, e0, k⟩ := bd_opt k
    obtain ⟨p, vs, e1, l, r1⟩ := hr.2
    subst e1
    rw [RpL.intsOf r1 e0] at l
    exact ⟨_, _, rfl, l, fun z2 => k.doneF S z2 rfl⟩
  | _ => exact (no_run k).elim
theorem ge_tupOf (N : Bn X x (.type "tuple")) (ha : GE X Ex q RO a fa) (hs : notStar a = true) : GE X Ex q RF (.Call (.Name x p) [a] [] pos) (bd fa sTupOf) := by
  refine ge_t1 N call_tuple_ofX ha hs RO_nil fun d y W H σ Q S z hr k => ?_
  cases d with
  | list ds =>
    obtain ⟨p, vs, e1, l, r1⟩ := hr.2
    subst e1
    exact ⟨_, _, rfl, .inl ⟨l, fun n o hn ho z2 => k.newT S r1 hn ho z2⟩⟩
  | tuple ds =>
    obtain ⟨p, vs, e1, f, l, r1⟩ := (show Rp W.F H (.tuple ds) y from hr.2)
    subst e1
    exact ⟨_, _, rfl, .inr ⟨l.sq, fun z2 => k.doneF S z2 ⟨p, vs, rfl, f, l, r1⟩⟩⟩
  | _ => exact (no_run k).elim
theorem ge_lstOf (N : Bn X x (.type "list")) (ha : GE X Ex q RO a fa) (hs : notStar a = true) : GE X Ex q RE (.Call (.Name x p) [a] [] pos) (bd fa sLstOf) := by
  refine ge_t1 N call_list_of ha hs RO_nil fun d y W H σ Q S z hr k => ?_
  cases d with
  | list ds =>
    obtain ⟨p, vs, e1, l, r1⟩ := hr.2
    subst e1
    exact ⟨_, _, rfl, .inl l, fun n hn z2 => k.newL S r1 hn z2⟩
  | tuple ds =>
    obtain ⟨p, vs, e1, f, l, r1⟩ := (show Rp W.F H (.tuple ds) y from hr.2)
    subst e1
    exact ⟨_, _, rfl, .inr (l.sq), fun n hn z2 => k.newL S r1 hn z2⟩
  | _ => exact (no_run k).elim
/-- two arguments -/
theorem ge_b2 {α β : Type} {R : RR α V} {R2 : RR β V} {g2 : Sm β} {g : PyData → β → Sm α} (N : Bn X x (.builtin id)) (hc : CallR X (.builtin id) r) (ha : GE X Ex q RF a fa) (hb : GE X Ex q R2 b g2) (hs : notStar a = true) (hs2 : notStar b = true)
    (nil : ∀ K mg W H a v r, R2 K mg W H a v r → r = [])
    (k : ∀ d e y y2 W H σ Q, Sat X.K X.mg W H σ → SzOk H → Rp W.F H d y → R2 X.K X.mg W H e y2 [] → Run X.K X.mg Ex q R σ W H (g d e) Q → r [y, y2] H (fun v H' => SzOk H' → Q v H')) :
    GE X Ex q R (.Call (.Name x p) [a, b] [] pos) (bd fa fun d => bd g2 fun e => g d e) := by
  refine pe_weak (pe_callB hc N.hg N.hm N.hv (pa_cons ha (pa_cons hb pa_nil (star_cons hs2 _ _)) (star_cons hs _ _)) N.hn N.hd (star_cons hs _ _) (star_plain _ _ _ (by simp [hs2]))) fun σ H Q z h => ?_
  exact tG.bin (Q' := fun y y2 H' => r [y, y2] H' fun v H' => SzOk H' → Q v H') h nil fun d e y y2 W H' S z' h1 h2 kk => k d e y y2 W H' σ Q S z' h1 h2 kk
theorem ge_min2 (hcm : X.calm = true) (N : Bn X x (.builtin "min")) (ha : GE X Ex q RF a fa) (hb : GE X Ex q RF b fb) (hs : notStar a = true) (hs2 : notStar b = true) : GE X Ex q RF (.Call (.Name x p) [a, b] [] pos) (bd fa fun d => bd fb fun e => sMin2 d e) := by
  refine ge_b2 N (call_min2 hcm) ha hb hs hs2 RF_nil fun d e y y2 W H σ Q S z h1 h2 k => ?_
  cases d with
  | int i =>
    cases e with
    | int j =>
      cases h1
      cases h2.2
      exact ⟨i, j, rfl, fun z2 => k.doneF S z2 rfl⟩
    | _ => exact (no_run k).elim
  | _ => cases e <;> exact (no_run k).elim
theorem ge_max2 (hcm : X.calm = true) (N : Bn X x (.builtin "max")) (ha : GE X Ex q RF a fa) (hb : GE X Ex q RF b fb) (hs : notStar a = true) (hs2 : notStar b = true) : GE X Ex q RF (.Call (.Name x p) [a, b] [] pos) (bd fa fun d => bd fb fun e => sMax2 d e) := by
  refine ge_b2 N (call_max2 hcm) ha hb hs hs2 RF_nil fun d e y y2 W H σ Q S z h1 h2 k => ?_
  cases d with
  | int i =>
    cases e with
    | int j =>
      cases h1
      cases h2.2
      exact ⟨i, j, rfl, fun z2 => k.doneF S z2 rfl⟩
    | _ => exact (no_run k).elim
  | _ => cases e <;> exact (no_run k).elim
/-! isinstance -/
def rIsD (K : PySem.W.Frag) (T : String) : List V → Hp → VK → Prop := fun xs H Q => ∃ F d x, xs = [x, .ty T] ∧ RpW K F H d x ∧ Q (.bl (isi T d)) H
theorem call_isD (hT : T ∈ ["int", "str", "tuple", "list", "bool", "dict"]) : CallR X (.builtin "isinstance") (rIsD X.K T) := by
  intro pins s σ H xs us Q I r h
  obtain ⟨F, d, x, rfl, hd, k⟩ := h
  obtain ⟨u1, u2, rfl, r1, r2⟩ := vals2 r
  cases r2
  obtain ⟨as, rd⟩ := Dp.reads I d x u1 hd.dp r1
  have fin : ∀ b', b' = isi T d → ∀ tk, EP X pins σ Q (.bool b') { s with toks := tk } := fun b' eb tk => ⟨.bl _, H, I.tok tk, by rw [eb] <;> rfl, k⟩
  simp only [List.mem_cons, List.not_mem_nil, or_false] at hT
  rcases hT with e | e | e | e | e | e <;> subst e
  · exact PySem.W.isinstance_int_data rd fun tk _ => fin _ rfl tk
  · exact PySem.W.isinstance_str_data rd fun tk _ => fin _ rfl tk
  · exact PySem.W.isinstance_tuple_data rd fun tk _ => fin _ rfl tk
  · exact PySem.W.isinstance_list_data rd fun tk _ => fin _ rfl tk
  · exact PySem.W.isinstance_bool_data rd fun tk _ => fin _ rfl tk
  · exact PySem.W.isinstance_dict_data rd fun tk _ => fin _ rfl tk
def RTy (T : String) : RR Unit V := fun K mg W H a v r => r = [] ∧ v = .ty T
theorem ge_ty (N : Bn X x (.type T)) : GE X Ex q (RTy T) (.Name x pos) (sret ()) :=
  pe_weak (pe_bltn (v := .ty T) N.hg N.hm N.hv rfl N.hn N.hd) fun σ H Q z ⟨W, S, h⟩ z2 => h.done S z2 ⟨rfl, rfl⟩ rfl
theorem ge_isi {x2 : Str} (N : Bn X x (.builtin "isinstance")) (N2 : Bn X x2 (.type T)) (hT : T ∈ ["int", "str", "tuple", "list", "bool", "dict"]) (ha : GE X Ex q RF a fa) (hs : notStar a = true) :
    GE X Ex q RF (.Call (.Name x p) [a, .Name x2 p2] [] pos) (bd fa fun d => sret (.bool (isi T d))) := by
  have h := ge_b2 (p := p) (pos := pos) (R := RF) (g := fun d (_ : Unit) => sret (.bool (isi T d))) N (call_isD hT) ha (ge_ty (q := q) (Ex := Ex) (pos := p2) N2) hs rfl (fun K mg W H a v r y => y.1) fun d e y y2 W H σ Q S z h1 h2 k => by
    rw [h2.2]
    exact ⟨W.F, d, y, rfl, h1.view, fun z2 => k.doneF S z2 rfl⟩
  exact h
end
end TW


set_option Elab.async false
set_option linter.all false
set_option maxRecDepth 100000
set_option maxHeartbeats 2000000
namespace TW
open PySem PySem.Spec PyProof.Rows L2

/-! ### slots stored -/
def updN (ow : Nat → List Addr) (i : Nat) (r : List Addr) : Nat → List Addr := fun j => if j = i then r else ow j
section
variable {K : PySem.W.Frag} {mg : Str → Option Value} {W : Wl} {H : Hp} {σ : L2.St} {i : Nat} {m : M} {v : V} {r : List Addr}
/-- a slot gets a new value, with what that owns -/
theorem Sat.set (S : Sat K mg W H σ) (hi : i < W.ev.length) (hm : RpM K mg W.F H m v r) (nd : r.Nodup) (dj : ∀ a ∈ r, ¬ W.F a ∧ ¬ own W a) :
    Sat K mg ⟨W.F, W.ev.set i (some m), updN W.ow i r⟩ H (σ.set i (some v)) where
  len := by simpa using S.len
  slot := fun j m' hj => by
    by_cases e : j = i
    · subst e
      rw [List.getElem?_set_self hi] at hj
      cases hj
      refine ⟨v, by rw [List.getElem?_set_self (by rw [S.len]; exact hi)], ?_⟩
      show RpM K mg W.F H m v (updN W.ow j r j)
      unfold updN
      rw [if_pos rfl]
      exact hm
    · rw [List.getElem?_set_ne (Ne.symm e)] at hj
      obtain ⟨u, h1, h2⟩ := S.slot j m' hj
      refine ⟨u, by rw [List.getElem?_set_ne (Ne.symm e)]; exact h1, ?_⟩
      show RpM K mg W.F H m' u (updN W.ow i r j)
      unfold updN
      rw [if_neg e]
      exact h2
  nil := fun j hj => by
    show updN W.ow i r j = []
    unfold updN
    by_cases e : j = i
    · subst e
      exact absurd (List.getElem?_set_self hi) (hj m)
    · rw [if_neg e]
      refine S.nil j fun m' z => hj m' ?_
      show (W.ev.set i (some m))[j]? = _
      rw [List.getElem?_set_ne (Ne.symm e)]
      exact z
  nd := fun j => by
    show (updN W.ow i r j).Nodup
    unfold updN
    split
    · exact nd
    · exact S.nd j
  dj := fun j k a hj hk => by
    have hj' : a ∈ updN W.ow i r j := hj
    have hk' : a ∈ updN W.ow i r k := hk
    unfold updN at hj' hk'
    by_cases e1 : j = i <;> by_cases e2 : k = i
    · rw [e1, e2]
    · rw [if_pos e1] at hj'; rw [if_neg e2] at hk'
      exact absurd ⟨k, hk'⟩ (dj a hj').2
    · rw [if_neg e1] at hj'; rw [if_pos e2] at hk'
      exact absurd ⟨j, hj'⟩ (dj a hk').2
    · rw [if_neg e1] at hj'; rw [if_neg e2] at hk'
      exact S.dj j k a hj' hk'
  nf := fun j a hj => by
    have hj' : a ∈ updN W.ow i r j := hj
    unfold updN at hj'
    by_cases e1 : j = i
    · rw [if_pos e1] at hj'
      exact (dj a hj').1
    · rw [if_neg e1] at hj'
      exact S.nf j a hj'
  ft := S.ft
/-- a slot is forgotten -/
theorem Sat.forget (S : Sat K mg W H σ) (i : Nat) (o : Option V) : Sat K mg ⟨W.F, W.ev.set i none, updN W.ow i []⟩ H (σ.set i o) where
  len := by simpa using S.len
  slot := fun j m' hj => by
    have hj' : (W.ev.set i none)[j]? = some (some m') := hj
    by_cases e : j = i
    · subst e
      by_cases hl : j < W.ev.length
      · rw [List.getElem?_set_self hl] at hj'
        cases hj'
      · rw [List.getElem?_eq_none (by simpa using hl)] at hj'
        cases hj'
    · rw [List.getElem?_set_ne (Ne.symm e)] at hj'
      obtain ⟨u, h1, h2⟩ := S.slot j m' hj'
      refine ⟨u, by rw [List.getElem?_set_ne (Ne.symm e)]; exact h1, ?_⟩
      show RpM K mg W.F H m' u (updN W.ow i [] j)
      unfold updN
      rw [if_neg e]
      exact h2
  nil := fun j hj => by
    show updN W.ow i [] j = []
    unfold updN
    by_cases e : j = i
    · rw [if_pos e]
    · rw [if_neg e]
      refine S.nil j fun m' z => hj m' ?_
      show (W.ev.set i none)[j]? = _
      rw [List.getElem?_set_ne (Ne.symm e)]
      exact z
  nd := fun j => by
    show (updN W.ow i [] j).Nodup
    unfold updN
    split
    · exact List.nodup_nil
    · exact S.nd j
  dj := fun j k a hj hk => by
    have hj' : a ∈ updN W.ow i [] j := hj
    have hk' : a ∈ updN W.ow i [] k := hk
    unfold updN at hj' hk'
    by_cases e1 : j = i
    · rw [if_pos e1] at hj'; cases hj'
    · by_cases e2 : k = i
      · rw [if_pos e2] at hk'; cases hk'
      · rw [if_neg e1] at hj'; rw [if_neg e2] at hk'
        exact S.dj j k a hj' hk'
  nf := fun j a hj => by
    have hj' : a ∈ updN W.ow i [] j := hj
    unfold updN at hj'
    by_cases e1 : j = i
    · rw [if_pos e1] at hj'; cases hj'
    · rw [if_neg e1] at hj'
      exact S.nf j a hj'
  ft := S.ft
theorem own_set {r : List Addr} {a : Addr} (h : own ⟨W.F, W.ev.set i (some m), updN W.ow i r⟩ a) : own W a ∨ a ∈ r := by
  obtain ⟨j, hj⟩ := h
  have hj' : a ∈ updN W.ow i r j := hj
  unfold updN at hj'
  by_cases e : j = i
  · rw [if_pos e] at hj'
    exact .inr hj'
  · rw [if_neg e] at hj'
    exact .inl ⟨j, hj'⟩
end

/-! ### targets: the slots that they set, what they do to an item -/
def tGG (K : PySem.W.Frag) (mg : Str → Option Value) (ts : List Nat) (g : PyData → Ev → Option Ev) : TG := fun v σ H Q => ∃ W d, Sat K mg W H σ ∧ Rp W.F H d v ∧ ∃ ev', g d W.ev = some ev' ∧
    ∀ (σ' : L2.St) (W' : Wl), W'.ev = ev' → W'.F = W.F → (∀ a, own W' a → own W a) → Sat K mg W' H σ' → σ'.length = σ.length → (∀ i, i ∉ ts → σ'[i]? = σ[i]? ∧ W'.ow i = W.ow i ∧ ev'[i]? = W.ev[i]?) → Q σ' H
def GG (X : Cx) (ts : List Nat) (tg : Expr) (g : PyData → Ev → Option Ev) : Prop := PG X tg (tGG X.K X.mg ts g)
def gN (i : Nat) : PyData → Ev → Option Ev := fun d ev => if i < ev.length then some (ev.set i (some (.fz d))) else none
def GGs (X : Cx) (ts : List Nat) (tgs : List Expr) (g : List PyData → Ev → Option Ev) : Prop :=
  PGs X tgs (fun vs σ H Q => ∃ W ds, Sat X.K X.mg W H σ ∧ RpL W.F H ds vs ∧ ∃ ev', g ds W.ev = some ev' ∧
    ∀ σ' W', W'.ev = ev' → W'.F = W.F → (∀ a, own W' a → own W a) → Sat X.K X.mg W' H σ' → σ'.length = σ.length → (∀ i, i ∉ ts → σ'[i]? = σ[i]? ∧ W'.ow i = W.ow i ∧ ev'[i]? = W.ev[i]?) → Q σ' H)
def gsN : List PyData → Ev → Option Ev := fun ds ev => match ds with
  | [] => some ev
  | _ => none
def gsC (g : PyData → Ev → Option Ev) (gs : List PyData → Ev → Option Ev) : List PyData → Ev → Option Ev := fun ds ev => match ds with
  | d :: r => (match g d ev with
    | some ev1 => gs r ev1
    | none => none)
  | [] => none
def gT (n : Nat) (gs : List PyData → Ev → Option Ev) : PyData → Ev → Option Ev := fun d ev => match d with
  | .tuple ds => if ds.length = n then gs ds ev else none
  | _ => none
section
variable {X : Cx} {i : Nat} {x : Str} {pos : Pos} {ts ts1 ts2 : List Nat} {tg : Expr} {tgs : List Expr}
theorem pg_weak {t t' : TG} (h : PG X tg t) (w : ∀ v σ H Q, t' v σ H Q → t v σ H Q) : PG X tg t' := ⟨fun pins s σ H v u Q I r hw => h.run pins s σ H v u Q I r (w v σ H Q hw)⟩
theorem pgs_weak {t t' : TGs} (h : PGs X tgs t) (w : ∀ v σ H Q, t' v σ H Q → t v σ H Q) : PGs X tgs t' := ⟨fun pins s σ H v u Q I r hw => h.run pins s σ H v u Q I r (w v σ H Q hw)⟩
theorem gg_name (hN : X.N.Nodup) (hi : X.N[i]? = some x) (hx : Loc X.env.scope x) (hf : X.fn x = true ∨ X.env.scope.names.lookup x = some .local) : GG X [i] (.Name x pos) (gN i) := by
  refine pg_weak (pg_name hN hi hx hf) fun v σ H Q ⟨W, d, S, r, ev', e, k⟩ => ?_
  unfold gN at e
  by_cases hl : i < W.ev.length
  · rw [if_pos hl] at e
    cases e
    refine k _ ⟨W.F, W.ev.set i (some (.fz d)), updN W.ow i []⟩ rfl rfl (fun a y => (own_set y).elim id fun z => by cases z) (S.set hl ⟨rfl, r⟩ List.nodup_nil fun a y => by cases y) (List.length_set ..) fun j hj => ?_
    have ne : i ≠ j := fun z => hj (by simp [z])
    refine ⟨List.getElem?_set_ne ne, ?_, List.getElem?_set_ne ne⟩
    show updN W.ow i [] j = _
    unfold updN
    rw [if_neg (Ne.symm ne)]
  · rw [if_neg hl] at e
    cases e
theorem ggs_nil : GGs X [] [] gsN := by
  refine pgs_weak pgs_nil fun vs σ H Q ⟨W, ds, S, r, ev', e, k⟩ => ?_
  cases ds with
  | nil =>
    cases e
    exact ⟨r, k σ W rfl rfl (fun _ y => y) S rfl fun _ _ => ⟨rfl, rfl, rfl⟩⟩
  | cons d ds => cases e
theorem ggs_cons {g : PyData → Ev → Option Ev} {gs : List PyData → Ev → Option Ev} (h1 : GG X ts1 tg g) (h2 : GGs X ts2 tgs gs) (hs : notStar tg = true) : GGs X (ts1 ++ ts2) (tg :: tgs) (gsC g gs) := by
  refine pgs_weak (pgs_cons h1 h2 (by cases tg <;> first | rfl | cases hs)) fun vs σ H Q ⟨W, ds, S, r, ev', e, k⟩ => ?_
  cases ds with
  | nil => cases e
  | cons d ds =>
    obtain ⟨v, r', ev, h1, h2⟩ := r
    have e' : (match g d W.ev with | some ev1 => gs ds ev1 | none => none) = some ev' := e
    cases q : g d W.ev with
    | none => rw [q] at e'; cases e'
    | some ev1 =>
      rw [q] at e'
      refine ⟨v, r', ev, W, d, S, h1, ev1, q, fun σ1 W1 a1 a2 a3 a4 al a5 => ?_⟩
      refine ⟨W1, ds, a4, by rw [a2]; exact h2, ev', by rw [a1]; exact e', fun σ2 W2 b1 b2 b3 b4 bl b5 => ?_⟩
      refine k σ2 W2 b1 (b2.trans a2) (fun a y => a3 a (b3 a y)) b4 (bl.trans al) fun j hj => ?_
      have n1 : j ∉ ts1 := fun z => hj (List.mem_append_left _ z)
      have n2 : j ∉ ts2 := fun z => hj (List.mem_append_right _ z)
      obtain ⟨c1, c2, c3⟩ := a5 j n1
      obtain ⟨d1, d2, d3⟩ := b5 j n2
      exact ⟨d1.trans c1, d2.trans c2, d3.trans (by rw [a1]; exact c3)⟩
theorem gg_tup {k : Nat} {gs : List PyData → Ev → Option Ev} (hc : X.calm = true) (h : GGs X ts tgs gs) (hs : tgs.all notStar = true) : GG X ts (.Tuple tgs k pos) (gT tgs.length gs) := by
  have hn : (assignEach tgs X.env).length = tgs.length ∧ (assignEach tgs X.env).findIdx? (·.1) = none := by
    clear h
    induction tgs with
    | nil => exact ⟨rfl, rfl⟩
    | cons t tgs ih =>
      have hs' : notStar t = true ∧ tgs.all notStar = true := by simpa [List.all_cons] using hs
      obtain ⟨i1, i2⟩ := ih hs'.2
      have e : assignEach (t :: tgs) X.env = (false, assign t X.env) :: assignEach tgs X.env := by
        have := hs'.1
        cases t <;> first | rfl | cases this
      rw [e]
      refine ⟨by rw [List.length_cons, List.length_cons, i1], ?_⟩
      rw [List.findIdx?_cons]
      simp [i2]
  refine pg_weak (pg_tup (n := tgs.length) hc h hn.1 hn.2) fun v σ H Q ⟨W, d, S, r, ev', e, k⟩ => ?_
  cases d with
  | tuple ds =>
    have e' : (if ds.length = tgs.length then gs ds W.ev else none) = some ev' := e
    by_cases hl : ds.length = tgs.length
    · rw [if_pos hl] at e'
      obtain ⟨a, vs, e1, f, l, r1⟩ := r
      exact ⟨a, vs, e1, l.sq, by rw [RpL.length r1, hl], W, ds, S, r1, ev', e', k⟩
    · rw [if_neg hl] at e'
      cases e'
  | _ => cases e
end

/-! ### what is walked -/
/-- the iterator's turns: item i is items[i], whatever happens to what is not frozen -/
def Yld (K : PySem.W.Frag) (F : Addr → Prop) (H : Hp) (x : V) (d : PyData) (H' : Hp) : Prop :=
  (H' = H ∧ Rp F H d x) ∨ ∃ T vs ds, ∃ o : Obj, o.dict = none ∧ H T = none ∧ H' = upd H T (.frz o (.tup vs)) ∧ x = .ref T ∧ d = .tuple ds ∧ RpL F H ds vs
structure ItOk (K : PySem.W.Frag) (J : It) (F : Addr → Prop) (H : Hp) (items : List PyData) : Prop where
  small : items.length ≤ sizeLine
  go : ∀ (F2 : Addr → Prop) (H2 : Hp), (∀ a, F a → F2 a) → (∀ a o, F a → H a = some o → H2 a = some o) → ∀ (i : Nat) d, items[i]? = some d → J.go i H2 ∧ ∀ x H3, J.yld i H2 x H3 → Yld K F2 H2 x d H3
  stop : ∀ (F2 : Addr → Prop) (H2 : Hp), (∀ a, F a → F2 a) → (∀ a o, F a → H a = some o → H2 a = some o) → ∀ i, items.length ≤ i → J.stop i H2
def RI : RR (List PyData) It := fun K mg W H items J r => r = [] ∧ ItOk K J W.F H items
def GI (X : Cx) (Ex : XK) (q : Bool) (tg iter : Expr) (f : Sm (List PyData)) : Prop := PI X tg iter (tG X Ex q RI f)
def sItems : PyData → Sm (List PyData)
  | .list ds => sret ds
  | .tuple ds => sret ds
  | _ => sfail
section
variable {X : Cx} {Ex : XK} {q : Bool} {tg e a b c : Expr} {pos p : Pos} {x : Str}
theorem pi_weak {t t' : TI} (h : PI X tg e t) (w : ∀ σ H Q, SzOk H → t' σ H Q → t σ H (fun v H' => SzOk H' → Q v H')) : PI X tg e t' :=
  ⟨fun pins s σ H R I hw => thn (h.run pins s σ H _ I (w σ H R (szOk_of I) hw)) fun v s1 h1 => thn h1 fun itv s2 ⟨it, fp, tn, J, H', e1, I', T, t0, fo, k⟩ => ⟨it, fp, tn, J, H', e1, I', T, t0, fo, k (szOk_of I')⟩⟩
/-- a list or a tuple -/
theorem pi_seq {tl : TE} (hl : PE X e tl) : PI X tg e (fun σ H R => tl σ H fun x H1 => ∃ a, x = .ref a ∧ ((∃ xs, SqL X.K H1 a xs ∧ R (Itl X.K a) H1) ∨ (∃ xs, SqT X.K H1 a xs ∧ R (Itt X.K a) H1))) := by
  refine ⟨fun pins s σ H R I h => ?_⟩
  refine thn (hl.run pins s σ H _ I h) fun v s1 ⟨x, H1, I1, r1, q1⟩ => ?_
  obtain ⟨a, e, qq⟩ := q1
  subst e
  cases r1
  rcases qq with ⟨xs, hq, q⟩ | ⟨xs, hq, q⟩
  · obtain ⟨its, rv, p, hz⟩ := I1.list hq
    refine wpAny_pyIter_list p.isList ?_
    refine ⟨s1.heap.objs.size, [s1.heap.objs.size], _, _, H1, rfl, I1.kept (t' := s1.toks) fun b o e => Heap.get?_push_of_some _ e, turn_list a _, ⟨_, Heap.get?_push_size _ rfl, rfl, rfl⟩, fun b hb => ?_, q⟩
    have e : b = s1.heap.objs.size := by simpa using hb
    subst e
    exact I1.fpOk (Nat.le_refl _) (I1.hok.fresh (Nat.le_refl _))
  · obtain ⟨its, rv, p, hz⟩ := I1.tuple hq
    refine wpAny_pyIter_tuple (show s1.heap.IsTuple a its.toArray from p) ?_
    refine ⟨s1.heap.objs.size, [s1.heap.objs.size], _, _, H1, rfl, I1.kept (t' := s1.toks) fun b o e => Heap.get?_push_of_some _ e, turn_tuple a _, ⟨_, Heap.get?_push_size _ rfl, rfl, rfl⟩, fun b hb => ?_, q⟩
    have e : b = s1.heap.objs.size := by simpa using hb
    subst e
    exact I1.fpOk (Nat.le_refl _) (I1.hok.fresh (Nat.le_refl _))
theorem Run.it {K : PySem.W.Frag} {mg : Str → Option Value} {σ : L2.St} {W : Wl} {H : Hp} {Q : It → Hp → Prop} {items : List PyData} {J : It} (h : Run K mg Ex q RI σ W H (sret items) Q) (S : Sat K mg W H σ) (z : SzOk H) (o : ItOk K J W.F H items) : Q J H := h.done S z ⟨rfl, o⟩ rfl
theorem gi_seq {fa : Sm PyData} (ha : GE X Ex q RF a fa) : GI X Ex q tg a (bd fa sItems) := by
  refine pi_weak (pi_seq ha) fun σ H Q z h => h.first fun d y W H' r S z' hr k => ?_
  have k := k hr.1
  have hx := hr.2
  cases d with
  | list ds =>
    obtain ⟨a, vs, e1, f, l, r1⟩ := hx
    refine ⟨a, e1, .inl ⟨vs, .inl (.inl l), fun z2 => k.it S z2 ⟨?_, fun F2 H2 m kp i d hi => ?_, fun F2 H2 m kp i hi => ?_⟩⟩⟩
    · rw [← RpL.length r1]
      exact z2 a vs (.inl l)
    · obtain ⟨v, h1, h2⟩ := RpL.get r1 hi
      have l2 : SqL X.K H2 a vs := .inl (.inl (kp a _ f l))
      refine ⟨⟨vs, v, l2, h1⟩, fun x H3 y => .inl ⟨y.1, ?_⟩⟩
      have e2 := y.2 vs l2
      rw [h1] at e2
      cases e2
      exact Rp.keep m kp d h2
    · exact ⟨vs, .inl (.inl (kp a _ f l)), by rw [RpL.length r1]; exact hi⟩
  | tuple ds =>
    obtain ⟨a, vs, e1, f, l, r1⟩ := (show Rp W.F H' (.tuple ds) y from hx)
    refine ⟨a, e1, .inr ⟨vs, l.sq, fun z2 => k.it S z2 ⟨?_, fun F2 H2 m kp i d hi => ?_, fun F2 H2 m kp i hi => ?_⟩⟩⟩
    · rw [← RpL.length r1]
      exact z2 a vs (.inr l)
    · obtain ⟨v, h1, h2⟩ := RpL.get r1 hi
      have l2 : SqT X.K H2 a vs := (l.keep fun o y => kp a o f y).sq
      refine ⟨⟨vs, v, l2, h1⟩, fun x H3 y => .inl ⟨y.1, ?_⟩⟩
      have e2 := y.2 vs l2
      rw [h1] at e2
      cases e2
      exact Rp.keep m kp d h2
    · exact ⟨vs, (l.keep fun o y => kp a o f y).sq, by rw [RpL.length r1]; exact hi⟩
  | _ => exact (no_run k).elim
/-! ranges -/
def rgI (lo : Int) (n : Nat) : List PyData := (List.range n).map fun i : Nat => PyData.int (lo + (i : Int))
theorem rgI_ok {K : PySem.W.Frag} {F : Addr → Prop} {H : Hp} {lo : Int} {n : Nat} (hn : n ≤ 16777216) : ItOk K (Itr lo n) F H (rgI lo n) := by
  refine ⟨by unfold rgI; rw [List.length_map, List.length_range, sizeLine_eq]; exact hn, fun F2 H2 m kp i d hi => ?_, fun F2 H2 m kp i hi => ?_⟩
  · unfold rgI at hi
    rw [List.getElem?_map] at hi
    obtain ⟨j, h1, h2⟩ := Option.map_eq_some_iff.mp hi
    have hj : i < n ∧ j = i := by
      obtain ⟨hlt, e⟩ := List.getElem?_eq_some_iff.mp h1
      rw [List.length_range] at hlt
      rw [List.getElem_range] at e
      exact ⟨hlt, e.symm⟩
    obtain ⟨hlt, rfl⟩ := hj
    refine ⟨hlt, fun x H3 y => .inl ⟨y.1, ?_⟩⟩
    subst h2
    exact y.2
  · unfold rgI at hi
    rw [List.length_map, List.length_range] at hi
    exact hi
def sRg1 : PyData → Sm (List PyData)
  | .int j => if j ≤ 16777216 ∧ -16777216 ≤ j then sret (rgI 0 j.toNat) else sfail
  | _ => sfail
def sRg2 : PyData → PyData → Sm (List PyData)
  | .int i, .int j => if (-16777216 ≤ i ∧ i ≤ 16777216) ∧ -16777216 ≤ j ∧ j ≤ 16777216 ∧ j - i ≤ 16777216 then sret (rgI i (j - i).toNat) else sfail
  | _, _ => sfail
theorem gi_range1 {fa : Sm PyData} (hg : Gl X "range") (hm : X.mg "range" = none) (ha : GE X Ex q RF a fa) (hs : notStar a = true) : GI X Ex q tg (.Call (.Name "range" p) [a] [] pos) (bd fa sRg1) := by
  refine pi_weak (pi_range1 hg hm (pa_cons ha pa_nil (star_cons hs _ _)) (star_cons hs _ _)) fun σ H Q z h => h.first fun d y W H' r S z' hr k => ?_
  have k := k hr.1
  cases d with
  | int j =>
    obtain ⟨c, k⟩ := ite_run (c := j ≤ 16777216 ∧ -16777216 ≤ j) k
    cases hr.2
    exact ⟨j, rfl, by omega, by omega, fun z2 => k.it S z2 (rgI_ok (by omega))⟩
  | _ => exact (no_run k).elim
theorem gi_range2 {fa fb : Sm PyData} (hg : Gl X "range") (hm : X.mg "range" = none) (ha : GE X Ex q RF a fa) (hb : GE X Ex q RF b fb) (hs : notStar a = true) (hs2 : notStar b = true) :
    GI X Ex q tg (.Call (.Name "range" p) [a, b] [] pos) (bd fa fun d => bd fb fun e => sRg2 d e) := by
  refine pi_weak (pi_range2 hg hm (pa_cons ha (pa_cons hb pa_nil (star_cons hs2 _ _)) (star_cons hs _ _)) (by rw [star_cons hs, star_cons hs2]; rfl) (by rw [star_cons hs2]; rfl)) fun σ H Q z h => ?_
  refine tG.bin (Q' := fun y y2 H' => ∃ i j : Int, [y, y2] = [.int i, .int j] ∧ (-(2 ^ 62) ≤ i ∧ i < 2 ^ 62 ∧ -(2 ^ 62) ≤ j ∧ j < 2 ^ 62) ∧ (SzOk H' → Q (Itr i (j - i).toNat) H')) h RF_nil fun d e y y2 W H' S z' h1 h2 k => ?_
  cases d with
  | int i =>
    cases e with
    | int j =>
      obtain ⟨c, k⟩ := ite_run (c := (-16777216 ≤ i ∧ i ≤ 16777216) ∧ -16777216 ≤ j ∧ j ≤ 16777216 ∧ j - i ≤ 16777216) k
      cases h1
      cases h2.2
      exact ⟨i, j, rfl, by omega, fun z2 => k.it S z2 (rgI_ok (by omega))⟩
    | _ => exact (no_run k).elim
  | _ => cases e <;> exact (no_run k).elim
end
end TW


set_option Elab.async false
set_option linter.all false
set_option maxRecDepth 100000
set_option maxHeartbeats 2000000
namespace TW
open PySem PySem.Spec PyProof.Rows L2

def wipeE (ev : Ev) : List Nat → Ev
  | [] => ev
  | v :: vs => (wipeE ev vs).set v none
def wipeO (ow : Nat → List Addr) : List Nat → Nat → List Addr
  | [] => ow
  | v :: vs => updN (wipeO ow vs) v []
def restE (ev0 ev : Ev) : List Nat → Ev
  | [] => ev
  | v :: vs => (restE ev0 ev vs).set v ((ev0[v]?).getD none)
def notMl : Option (Option M) → Bool
  | some (some (.ml _)) => false
  | _ => true
def lcLoop (vs : List Nat) (g : PyData → Ev → Option Ev) (tt : Sm Bool) (fe : Sm M) : List PyData → List M → Ev → Option (List M × Ev)
  | [], acc, ev => some (acc, ev)
  | d :: ds, acc, ev => match g d ev with
    | none => none
    | some ev1 => match tt ev1 with
      | .ok (true, ev2) => (match fe ev2 with
        | .ok (m, ev3) => lcLoop vs g tt fe ds (acc ++ [m]) (wipeE ev3 vs)
        | _ => none)
      | .ok (false, ev2) => lcLoop vs g tt fe ds acc (wipeE ev2 vs)
      | _ => none
def sLcT (vs : List Nat) (g : PyData → Ev → Option Ev) (tt : Sm Bool) (fe : Sm M) (items : List PyData) : Sm M := fun ev =>
  if vs.all (fun v => notMl ev[v]?) = true then (match lcLoop vs g tt fe items [] (wipeE ev vs) with
    | some (ms, ev') => .ok (.ml ms, restE ev ev' vs)
    | none => .no)
  else .no
def sLc (vs : List Nat) (g : PyData → Ev → Option Ev) (tt : Sm Bool) (fe : Sm M) (fi : Sm (List PyData)) : Sm M := bd fi (sLcT vs g tt fe)
theorem wipeE_len (ev : Ev) : ∀ vs, (wipeE ev vs).length = ev.length
  | [] => rfl
  | v :: vs => by unfold wipeE; rw [List.length_set, wipeE_len ev vs]
theorem restE_len (ev0 ev : Ev) : ∀ vs, (restE ev0 ev vs).length = ev.length
  | [] => rfl
  | v :: vs => by unfold restE; rw [List.length_set, restE_len ev0 ev vs]
theorem restE_out {ev0 ev : Ev} {i : Nat} : ∀ {vs : List Nat}, i ∉ vs → (restE ev0 ev vs)[i]? = ev[i]?
  | [], _ => rfl
  | v :: vs, h => by
    unfold restE
    rw [List.getElem?_set_ne fun e => h (by simp [e])]
    exact restE_out fun z => h (List.mem_cons_of_mem _ z)
theorem restE_in {ev0 ev : Ev} {i : Nat} (hl : i < ev.length) : ∀ {vs : List Nat}, i ∈ vs → (restE ev0 ev vs)[i]? = some ((ev0[i]?).getD none)
  | v :: vs, h => by
    unfold restE
    by_cases e : v = i
    · subst e
      rw [List.getElem?_set_self (by rw [restE_len]; exact hl)]
    · rw [List.getElem?_set_ne e]
      exact restE_in hl ((List.mem_cons.mp h).elim (fun z => absurd z.symm e) id)
theorem wipeO_in {ow : Nat → List Addr} {i : Nat} : ∀ {vs : List Nat}, i ∈ vs → wipeO ow vs i = []
  | v :: vs, h => by
    show updN (wipeO ow vs) v [] i = []
    unfold updN
    by_cases e : i = v
    · rw [if_pos e]
    · rw [if_neg e]
      exact wipeO_in ((List.mem_cons.mp h).elim (fun z => absurd z e) id)
theorem wipeO_out {ow : Nat → List Addr} {i : Nat} : ∀ {vs : List Nat}, i ∉ vs → wipeO ow vs i = ow i
  | [], _ => rfl
  | v :: vs, h => by
    show updN (wipeO ow vs) v [] i = ow i
    unfold updN
    rw [if_neg fun e => h (by simp [e])]
    exact wipeO_out fun z => h (List.mem_cons_of_mem _ z)
theorem wipe_same {σ τ : L2.St} (hl : σ.length = τ.length) : ∀ {vs : List Nat}, (∀ i, i ∉ vs → σ[i]? = τ[i]?) → wipe σ vs = wipe τ vs := by
  intro vs h
  apply List.ext_getElem?
  intro i
  by_cases hi : i ∈ vs
  · have gen : ∀ (ρ : L2.St) (vs : List Nat), i ∈ vs → (wipe ρ vs)[i]? = if i < ρ.length then some none else none := by
      intro ρ vs
      induction vs with
      | nil => intro z; cases z
      | cons v vs ih =>
        intro z
        unfold wipe
        by_cases e : v = i
        · subst e
          by_cases hv : v < ρ.length
          · rw [List.getElem?_set_self (by rw [wipe_length]; exact hv), if_pos hv]
          · rw [List.getElem?_eq_none (by rw [List.length_set, wipe_length]; omega), if_neg hv]
        · rw [List.getElem?_set_ne e]
          exact ih ((List.mem_cons.mp z).elim (fun w => absurd w.symm e) id)
    rw [gen σ vs hi, gen τ vs hi, hl]
  · rw [wipe_out hi, wipe_out hi, h i hi]
section
variable {K : PySem.W.Frag} {mg : Str → Option Value} {W Wb : Wl} {H H' : Hp} {σ : L2.St}
theorem Sat.wipe (S : Sat K mg W H σ) : ∀ vs, Sat K mg ⟨W.F, wipeE W.ev vs, wipeO W.ow vs⟩ H (wipe σ vs)
  | [] => S
  | v :: vs => (Sat.wipe S vs).forget v none
theorem own_wipe {vs : List Nat} {a : Addr} (h : own ⟨W.F, wipeE W.ev vs, wipeO W.ow vs⟩ a) : own W a := by
  obtain ⟨i, h⟩ := h
  have h' : a ∈ wipeO W.ow vs i := h
  by_cases hi : i ∈ vs
  · rw [wipeO_in hi] at h'
    cases h'
  · rw [wipeO_out hi] at h'
    exact ⟨i, h'⟩
theorem RpM.nil_of {m : M} {v : V} {r : List Addr} {F : Addr → Prop} (h : RpM K mg F H m v r) (n : ∀ xs, m ≠ .ml xs) : r = [] := by
  cases m with
  | fz d => exact h.1
  | fn x => exact h.1
  | sc x => exact h.1
  | ml xs => exact absurd rfl (n xs)
/-- behind a block: its own slots as they were -/
theorem Sat.restore (S : Sat K mg W H σ) {vs : List Nat} (hv : vs.all (fun v => notMl W.ev[v]?) = true) (Sb : Sat K mg Wb H' (L2.wipe σ vs)) {O' : Addr → Prop} (st : Stp (own W) W.F H O' Wb.F H') :
    Sat K mg ⟨Wb.F, restE W.ev Wb.ev vs, wipeO Wb.ow vs⟩ H' σ := by
  have hlen : Wb.ev.length = W.ev.length := by rw [← Sb.len, wipe_length, S.len]
  have nm : ∀ i ∈ vs, ∀ m, W.ev[i]? = some (some m) → ∀ xs, m ≠ .ml xs := fun i hi m hm xs e => by
    have := List.all_eq_true.mp hv i hi
    rw [hm, e] at this
    cases this
  refine ⟨by rw [S.len, ← hlen]; exact (restE_len _ _ _).symm, fun i m hi => ?_, fun i hi => ?_, fun i => ?_, fun i j a h1 h2 => ?_, fun i a h => ?_, Sb.ft⟩
  · by_cases hm : i ∈ vs
    · have hil : i < Wb.ev.length := by
        have := (List.getElem?_eq_some_iff.mp hi).1
        rw [restE_len] at this
        exact this
      have hi' : (restE W.ev Wb.ev vs)[i]? = some (some m) := hi
      rw [restE_in hil hm] at hi'
      have e0 : W.ev[i]? = some (some m) := by
        cases q : W.ev[i]? with
        | none => rw [q] at hi'; cases hi'
        | some o => rw [q] at hi'; exact hi'
      obtain ⟨v, h1, h2⟩ := S.slot i m e0
      refine ⟨v, h1, ?_⟩
      show RpM K mg Wb.F H' m v (wipeO Wb.ow vs i)
      rw [wipeO_in hm]
      have en := h2.nil_of (nm i hm m e0)
      rw [en] at h2
      exact S.rpM st h2 fun a y => by cases y
    · have hi' : (restE W.ev Wb.ev vs)[i]? = some (some m) := hi
      rw [restE_out hm] at hi'
      obtain ⟨v, h1, h2⟩ := Sb.slot i m hi'
      refine ⟨v, (wipe_some h1).1, ?_⟩
      show RpM K mg Wb.F H' m v (wipeO Wb.ow vs i)
      rw [wipeO_out hm]
      exact h2
  · by_cases hm : i ∈ vs
    · exact wipeO_in hm
    · show wipeO Wb.ow vs i = []
      rw [wipeO_out hm]
      exact Sb.nil i fun m z => hi m (by show (restE W.ev Wb.ev vs)[i]? = _; rw [restE_out hm]; exact z)
  · show (wipeO Wb.ow vs i).Nodup
    by_cases hm : i ∈ vs
    · rw [wipeO_in hm]; exact List.nodup_nil
    · rw [wipeO_out hm]; exact Sb.nd i
  · have h1' : a ∈ wipeO Wb.ow vs i := h1
    have h2' : a ∈ wipeO Wb.ow vs j := h2
    by_cases e1 : i ∈ vs
    · rw [wipeO_in e1] at h1'; cases h1'
    · by_cases e2 : j ∈ vs
      · rw [wipeO_in e2] at h2'; cases h2'
      · rw [wipeO_out e1] at h1'; rw [wipeO_out e2] at h2'
        exact Sb.dj i j a h1' h2'
  · have h' : a ∈ wipeO Wb.ow vs i := h
    by_cases e1 : i ∈ vs
    · rw [wipeO_in e1] at h'; cases h'
    · rw [wipeO_out e1] at h'
      exact Sb.nf i a h'
/-- an object that nobody here speaks of is changed -/
theorem Sat.other (S : Sat K mg W H σ) {p : Addr} {o : HO} (nf : ¬ W.F p) (no : ¬ own W p) : Sat K mg W (upd H p o) σ := by
  have k : ∀ a u, a ≠ p → H a = some u → (upd H p o) a = some u := fun a u n e => by rw [upd_ne n]; exact e
  refine ⟨S.len, fun i m hi => ?_, S.nil, S.nd, S.dj, S.nf, fun a h => ?_⟩
  · obtain ⟨v, h1, h2⟩ := S.slot i m hi
    refine ⟨v, h1, RpM.keep (fun _ y => y) (fun a u f y => k a u (fun e => nf (e ▸ f)) y) m h2 fun a ha u y => k a u (fun e => no ⟨i, e ▸ ha⟩) y⟩
  · cases e : H a with
    | none => exact absurd e (S.ft a h)
    | some u =>
      rw [k a u (fun z => nf (z ▸ h)) e]
      exact fun z => by cases z
theorem Sat.yld {F : Addr → Prop} (S : Sat K mg W H σ) {x : V} {d : PyData} (y : Yld K W.F H x d H') (F' : Addr → Prop) (eF : F' = F) :
    ∃ W', Sat K mg W' H' σ ∧ W'.ev = W.ev ∧ W'.ow = W.ow ∧ Rp W'.F H' d x ∧ Stp (own W) W.F H (own W') W'.F H' ∧ (∀ a o, H a = some o → H' a = some o) ∧ (∀ a, W'.F a → W.F a ∨ H a = none) := by
  rcases y with ⟨e, r⟩ | ⟨T, vs, ds, o, ho, hT, e, ex, ed, r⟩
  · subst e
    exact ⟨W, S, rfl, rfl, r, Stp.refl, fun _ _ h => h, fun a h => .inl h⟩
  · subst e ex ed
    refine ⟨⟨fun a => W.F a ∨ a = T, W.ev, W.ow⟩, S.growF hT, rfl, rfl, ⟨T, vs, rfl, .inr rfl, ⟨o, ho, upd_same⟩, RpL.keep' (fun _ y => .inl y) (keep_upd hT) r⟩, ⟨fun _ y => .inl y, fun a u y _ => keep_upd hT a u y, fun a y => ?_, fun a y => .inl y⟩, keep_upd hT, fun a y => ?_⟩
    · rcases y with y | y
      · exact .inl y
      · subst y; exact .inr (.inr hT)
    · rcases y with y | y
      · exact .inl y
      · subst y; exact .inr hT
end
theorem RpMs.snoc {K : PySem.W.Frag} {mg : Str → Option Value} {F : Addr → Prop} {H : Hp} : ∀ {ms : List M} {vs : List V} {o : List Addr} {m : M} {v : V} {r : List Addr}, RpMs K mg F H ms vs o → RpM K mg F H m v r → RpMs K mg F H (ms ++ [m]) (vs ++ [v]) (o ++ r)
  | [], _, _, m, v, r, h, h' => by
    obtain ⟨h1, h2⟩ := h
    subst h1 h2
    exact ⟨v, [], r, [], rfl, by simp, h', rfl, rfl⟩
  | x :: xs, _, _, m, v, r, h, h' => by
    obtain ⟨u, t, o1, o2, e, eo, h1, h2⟩ := h
    subst e eo
    exact ⟨u, _, o1, o2 ++ r, rfl, by rw [List.append_assoc], h1, RpMs.snoc h2 h'⟩
theorem RpMs.len {K : PySem.W.Frag} {mg : Str → Option Value} {F : Addr → Prop} {H : Hp} : ∀ {ms : List M} {vs : List V} {o : List Addr}, RpMs K mg F H ms vs o → vs.length = ms.length
  | [], _, _, h => by rw [h.1] <;> rfl
  | x :: xs, _, _, h => by
    obtain ⟨u, t, o1, o2, e, _, _, h2⟩ := h
    rw [e, List.length_cons, List.length_cons, RpMs.len h2]

def E0x : XK := fun _ _ _ => False
def GTs (X : Cx) (q : Bool) (ifs : List Expr) (f : Sm Bool) : Prop := PTs X ifs (tG X E0x q RB f)
theorem gts_nil {X : Cx} {q : Bool} : GTs X q [] (sret true) := by
  refine ⟨fun pins s σ H Q I ⟨W, S, h⟩ => pts_nil.run pins s σ H Q I ?_⟩
  exact h.doneB S (szOk_of I)
theorem gts_one {X : Cx} {q : Bool} {c : Expr} {f : Sm Bool} (h : GT X E0x q c f) : GTs X q [c] f := pts_one h
def notSet : Expr → Bool
  | .Set .. => false
  | _ => true
theorem folded_of {e : Expr} (h : notSet e = true) (env : PySem.Env) (x : Value) : foldedSetIterable e env x = pure x := by
  cases e <;> first | rfl | cases h
section
variable {X : Cx} {Ex : XK} {q : Bool} {elt tg iter : Expr} {ifs : List Expr} {scope : Scope} {own' : List (Str × Nat)} {pos : Pos} {fi : Sm (List PyData)} {g : PyData → Ev → Option Ev} {ft : Sm Bool} {fe : Sm M} {ts : List Nat}
/-- what is pending stays apart -/
theorem pend {O F O' F' : Addr → Prop} {H H' : Hp} (st : Stp O F H O' F' H') {a : Addr} (h : H a ≠ none) (nf : ¬ F a) (no : ¬ O a) : ¬ F' a ∧ ¬ O' a := by
  refine ⟨fun y => ?_, fun y => ?_⟩
  · rcases st.fnew a y with w | w | w
    · exact nf w
    · exact no w
    · exact h w
  · rcases st.onew a y with w | w
    · exact no w
    · exact h w
theorem wipe_wipe (σ : L2.St) (vs : List Nat) : wipe (wipe σ vs) vs = wipe σ vs := wipe_same (wipe_length σ vs) fun i hi => wipe_out hi
theorem wipeE_out {ev : Ev} {i : Nat} : ∀ {vs : List Nat}, i ∉ vs → (wipeE ev vs)[i]? = ev[i]?
  | [], _ => rfl
  | v :: vs, h => by
    unfold wipeE
    rw [List.getElem?_set_ne fun e => h (by simp [e])]
    exact wipeE_out fun z => h (List.mem_cons_of_mem _ z)
theorem wipeE_in {ev : Ev} {i : Nat} : ∀ {vs : List Nat}, i ∈ vs → (wipeE ev vs)[i]? = if i < ev.length then some none else none
  | v :: vs, z => by
    unfold wipeE
    by_cases e : v = i
    · subst e
      by_cases hv : v < ev.length
      · rw [List.getElem?_set_self (by rw [wipeE_len]; exact hv), if_pos hv]
      · rw [List.getElem?_eq_none (by rw [List.length_set, wipeE_len]; omega), if_neg hv]
    · rw [List.getElem?_set_ne e]
      exact wipeE_in ((List.mem_cons.mp z).elim (fun w => absurd w.symm e) id)
theorem wipeE_same {a b : Ev} (hl : a.length = b.length) {vs : List Nat} (h : ∀ i, i ∉ vs → a[i]? = b[i]?) : wipeE a vs = wipeE b vs := by
  apply List.ext_getElem?
  intro i
  by_cases hi : i ∈ vs
  · rw [wipeE_in hi, wipeE_in hi, hl]
  · rw [wipeE_out hi, wipeE_out hi, h i hi]
theorem wipeO_same {a b : Nat → List Addr} {vs : List Nat} (h : ∀ i, i ∉ vs → a i = b i) : wipeO a vs = wipeO b vs := by
  funext i
  by_cases hi : i ∈ vs
  · rw [wipeO_in hi, wipeO_in hi]
  · rw [wipeO_out hi, wipeO_out hi, h i hi]
theorem restE_wipe (ev : Ev) (vs : List Nat) : restE ev (wipeE ev vs) vs = ev := by
  apply List.ext_getElem?
  intro i
  by_cases hi : i ∈ vs
  · by_cases hl : i < ev.length
    · rw [restE_in (by rw [wipeE_len]; exact hl) hi, List.getElem?_eq_getElem hl] <;> rfl
    · rw [List.getElem?_eq_none (by rw [restE_len, wipeE_len]; omega), List.getElem?_eq_none (by omega)]
  · rw [restE_out hi, wipeE_out hi]
/-- the state of a comprehension's loop: D the new list -/
structure LcSt (K : PySem.W.Frag) (mg : Str → Option Value) (q : Bool) (W : Wl) (H1 : Hp) (σ : L2.St) (vs : List Nat) (D : Addr) (n : Nat) (H : Hp) (Wb : Wl) (acc : List M) : Prop where
  sat : Sat K mg Wb H (L2.wipe σ vs)
  lst : ∃ us R, H D = some (.lst us) ∧ RpMs K mg Wb.F H acc us R ∧ (D :: R).Nodup ∧ (∀ a ∈ D :: R, ¬ Wb.F a ∧ ¬ own Wb a) ∧ Stp (own W) W.F H1 (fun x => own Wb x ∨ x ∈ D :: R) Wb.F H
  len : acc.length ≤ n
  qt : q = true → Wb.ev = wipeE W.ev vs ∧ Wb.ow = wipeO W.ow vs ∧ ∀ a o, H1 a = some o → H a = some o
theorem lc_imp (hts : ∀ i ∈ ts, i ∈ own'.map (·.2)) {σ : L2.St} {H : Hp} {Q : V → Hp → Prop} (h : tG X Ex q RE (sLc (own'.map (·.2)) g ft fe fi) σ H Q) :
    tLc (tG X Ex q RI fi) (tGG X.K X.mg ts g) (tG X E0x q RB ft) (tG X E0x q RE fe) (own'.map (·.2)) σ H (fun v H' => SzOk H' → Q v H') := by
  generalize hvs : own'.map (·.2) = vs at h hts ⊢
  refine tG.first (R := RI) h fun items J W H1 r S z1 hr k => ?_
  have k := k hr.1
  have it := hr.2
  intro D hD
  by_cases hv : vs.all (fun v => notMl W.ev[v]?) = true
  case neg =>
    have e0 : sLcT vs g ft fe items W.ev = .no := by unfold sLcT; rw [if_neg hv]
    unfold Run at k
    rw [e0] at k
    exact k.elim
  cases hl : lcLoop vs g ft fe items [] (wipeE W.ev vs) with
  | none =>
    have e0 : sLcT vs g ft fe items W.ev = .no := by unfold sLcT; rw [if_pos hv, hl]
    unfold Run at k
    rw [e0] at k
    exact k.elim
  | some p =>
    obtain ⟨ms, evE⟩ := p
    refine ⟨fun n m H2 => m = items.length - n ∧ n ≤ items.length ∧ ∃ Wb acc, LcSt X.K X.mg q W H1 σ vs D n H2 Wb acc ∧ lcLoop vs g ft fe (items.drop n) acc Wb.ev = some (ms, evE),
      ⟨items.length, by simp, Nat.zero_le _, ⟨W.F, wipeE W.ev vs, wipeO W.ow vs⟩, [], ⟨(S.wipe vs).grow hD, ⟨[], [], upd_same, ⟨rfl, rfl⟩, by simp, fun a ha => ?_, ⟨fun _ y => y, fun a u y _ => keep_upd hD a u y, fun _ y => .inl y, fun a y => ?_⟩⟩, Nat.zero_le _, fun _ => ⟨rfl, rfl, keep_upd hD⟩⟩, by simpa using hl⟩, ?_⟩
    · have e : a = D := by simpa using ha
      subst e
      exact ⟨fun y => S.ft _ y hD, fun y => S.ownT (own_wipe y) hD⟩
    · rcases y with y | y
      · exact .inl (own_wipe y)
      · have e : a = D := by simpa using y
        subst e
        exact .inr hD
    rintro n m H2 ⟨rfl, hn, Wb, acc, L, hloop⟩
    obtain ⟨us, R, hD2, rms, nd, dj, st⟩ := L.lst
    have keepF : ∀ a o, W.F a → H1 a = some o → H2 a = some o := S.keepF st
    by_cases hlt : n < items.length
    case neg =>
      have en : n = items.length := by omega
      subst en
      refine .inl ⟨it.stop Wb.F H2 st.mono keepF _ (Nat.le_refl _), fun z2 => ?_⟩
      rw [List.drop_length] at hloop
      have hloop' : some (acc, Wb.ev) = some (ms, evE) := hloop
      cases hloop'
      refine k.fin (a := .ml ms) (d' := restE W.ev Wb.ev vs) (by unfold sLcT; rw [if_pos hv, hl]) (.ref D) ⟨Wb.F, restE W.ev Wb.ev vs, wipeO Wb.ow vs⟩ H2 (D :: R) rfl (S.restore hv L.sat st) z2 ⟨(show RpM X.K X.mg Wb.F H2 (.ml ms) (.ref D) (D :: R) from ⟨D, us, R, rfl, hD2, rfl, rms⟩), nd, fun a ha => ?_⟩ (st.less fun x y => ?_) fun hq => ?_
      · refine ⟨(dj a ha).1, fun y => (dj a ha).2 ?_⟩
        exact own_wipe (W := ⟨Wb.F, Wb.ev, Wb.ow⟩) (vs := vs) y
      · rcases y with y | y
        · exact .inl (own_wipe (W := ⟨Wb.F, Wb.ev, Wb.ow⟩) (vs := vs) y)
        · exact .inr y
      · obtain ⟨q1, q2, q3⟩ := L.qt hq
        refine ⟨by show restE W.ev Wb.ev vs = W.ev; rw [q1, restE_wipe], ?_, q3⟩
        show wipeO Wb.ow vs = W.ow
        funext i
        by_cases hi : i ∈ vs
        · rw [wipeO_in hi]
          by_cases hs : ∃ m, W.ev[i]? = some (some m)
          · obtain ⟨m, hm⟩ := hs
            obtain ⟨v, _, h2⟩ := S.slot i m hm
            refine (h2.nil_of fun xs e => ?_).symm
            have := List.all_eq_true.mp hv i hi
            rw [hm, e] at this
            cases this
          · exact (S.nil i fun m y => hs ⟨m, y⟩).symm
        · rw [wipeO_out hi, q2, wipeO_out hi]
    have hget : items[n]? = some items[n] := List.getElem?_eq_getElem hlt
    obtain ⟨hgo, hy⟩ := it.go Wb.F H2 st.mono keepF n _ hget
    rw [List.drop_eq_getElem_cons hlt] at hloop
    have thT : ∀ a ∈ D :: R, H2 a ≠ none := fun a ha => by
      rcases List.mem_cons.mp ha with y | y
      · rw [y, hD2]; exact fun w => by cases w
      · exact RpMs.there acc rms a y
    refine .inr ⟨hgo, fun H' => ∃ Wb acc, LcSt X.K X.mg q W H1 σ vs D (n + 1) H' Wb acc ∧ lcLoop vs g ft fe (items.drop (n + 1)) acc Wb.ev = some (ms, evE), fun H' ⟨Wb', acc', L', hl'⟩ => ⟨items.length - (n + 1), by omega, rfl, hlt, Wb', acc', L', hl'⟩, fun x H3 y => ?_⟩
    obtain ⟨Wy, Sy, ey, oy, ry, sty, ky, fy⟩ := L.sat.yld (hy x H3 y) Wb.F rfl
    have hloop1 : (match g items[n] Wb.ev with
      | none => none
      | some ev1 => match ft ev1 with
        | .ok (true, ev2) => (match fe ev2 with
          | .ok (m, ev3) => lcLoop vs g ft fe (items.drop (n + 1)) (acc ++ [m]) (wipeE ev3 vs)
          | _ => none)
        | .ok (false, ev2) => lcLoop vs g ft fe (items.drop (n + 1)) acc (wipeE ev2 vs)
        | _ => none) = some (ms, evE) := hloop
    cases hgv : g items[n] Wb.ev with
    | none => rw [hgv] at hloop1; cases hloop1
    | some ev1 =>
      rw [hgv] at hloop1
      replace hloop1 : (match ft ev1 with
        | .ok (true, ev2) => (match fe ev2 with
          | .ok (m, ev3) => lcLoop vs g ft fe (items.drop (n + 1)) (acc ++ [m]) (wipeE ev3 vs)
          | _ => none)
        | .ok (false, ev2) => lcLoop vs g ft fe (items.drop (n + 1)) acc (wipeE ev2 vs)
        | _ => none) = some (ms, evE) := hloop1
      refine ⟨Wy, items[n], Sy, ry, ev1, by rw [ey]; exact hgv, fun σ2 W2 a1 a2 a3 a4 al a5 => ?_⟩
      have wsame : wipe σ2 vs = wipe σ vs := by
        rw [← wipe_wipe σ vs]
        exact wipe_same al fun i hi => (a5 i fun y => hi (hts i y)).1
      have stA : Stp (own Wb) Wb.F H2 (own W2) W2.F H3 := by
        have := sty.less (O2 := own W2) a3
        rw [a2]
        exact this
      have evs : wipeE W2.ev vs = wipeE Wb.ev vs := by
        refine wipeE_same ?_ fun i hi => ?_
        · rw [← a4.len, al, ← L.sat.len]
        · rw [a1, (a5 i fun y => hi (hts i y)).2.2, ey]
      have ows : wipeO W2.ow vs = wipeO Wb.ow vs := wipeO_same fun i hi => by rw [(a5 i fun y => hi (hts i y)).2.1, oy]
      refine ⟨wsame, W2, a4, ?_⟩
      unfold Run
      rw [a1]
      cases hft : ft ev1 with
      | exc c => rw [hft] at hloop1; cases hloop1
      | no => rw [hft] at hloop1; cases hloop1
      | ok pb =>
        obtain ⟨b, ev2⟩ := pb
        rw [hft] at hloop1
        intro v W3 H5 r3 e3 S3 z3 hr3 st3 q3
        obtain ⟨en, ev⟩ := hr3
        subst en ev
        have stB : Stp (own Wb) Wb.F H2 (own W3) W3.F H5 := stA.trans (st3.less fun x y => .inl y)
        cases v with
        | false =>
          rw [if_neg Bool.false_ne_true]
          refine ⟨⟨W3.F, wipeE W3.ev vs, wipeO W3.ow vs⟩, acc, ⟨?_, ⟨us, R, ?_, ?_, nd, fun a ha => ?_, ?_⟩, Nat.le_succ_of_le L.len, fun hq => ?_⟩, by rw [e3]; exact hloop1⟩
          · have := S3.wipe vs
            rw [wsame] at this
            exact this
          · exact stB.out D _ hD2 (dj D (List.mem_cons_self ..)).2
          · exact RpMs.keep stB.mono (L.sat.keepF stB) acc rms fun a ha u hu => stB.out a u hu (dj a (List.mem_cons_of_mem _ ha)).2
          · obtain ⟨p1, p2⟩ := pend stB (thT a ha) (dj a ha).1 (dj a ha).2
            exact ⟨p1, fun y => p2 (own_wipe y)⟩
          · refine (st.trans (stB.frame (T := fun x => x ∈ D :: R))).less fun x y => ?_
            rcases y with y | y
            · exact .inl (own_wipe y)
            · exact .inr y
          · obtain ⟨l1, l2, l3⟩ := L.qt hq
            obtain ⟨w1, w2, w3⟩ := q3 hq
            refine ⟨?_, ?_, fun a o y => w3 a o (ky a o (l3 a o y))⟩
            · show wipeE W3.ev vs = _
              rw [w1, evs, l1]
              exact wipeE_same (wipeE_len _ _) fun i hi => wipeE_out hi
            · show wipeO W3.ow vs = _
              rw [w2, ows, l2]
              exact wipeO_same fun i hi => wipeO_out hi
        | true =>
          rw [if_pos rfl]
          refine ⟨W3, S3, ?_⟩
          unfold Run
          rw [e3]
          have hloop2 : (match fe ev2 with
            | .ok (m, ev3) => lcLoop vs g ft fe (items.drop (n + 1)) (acc ++ [m]) (wipeE ev3 vs)
            | _ => none) = some (ms, evE) := hloop1
          cases hfe : fe ev2 with
          | exc c => rw [hfe] at hloop2; cases hloop2
          | no => rw [hfe] at hloop2; cases hloop2
          | ok pm =>
            obtain ⟨m, ev3⟩ := pm
            rw [hfe] at hloop2
            intro y W4 H6 r4 e4 S4 z4 hr4 st4 q4
            obtain ⟨rm, nd4, dj4⟩ := hr4
            have stC : Stp (own Wb) Wb.F H2 (fun x => own W4 x ∨ x ∈ r4) W4.F H6 := stB.trans st4
            have hD6 : H6 D = some (.lst us) := stC.out D _ hD2 (dj D (List.mem_cons_self ..)).2
            have pT : ∀ a ∈ D :: R, ¬ W4.F a ∧ ¬ (own W4 a ∨ a ∈ r4) := fun a ha => pend stC (thT a ha) (dj a ha).1 (dj a ha).2
            have pD := pT D (List.mem_cons_self ..)
            have rms6 := RpMs.keep stC.mono (L.sat.keepF stC) acc rms fun a ha u hu => stC.out a u hu (dj a (List.mem_cons_of_mem _ ha)).2
            have kD : ∀ a u, a ≠ D → H6 a = some u → (upd H6 D (.lst (us ++ [y]))) a = some u := fun a u ne e => by rw [upd_ne ne]; exact e
            have Dr4 : D ∉ r4 := fun w => pD.2 (.inr w)
            have DR : D ∉ R := (List.nodup_cons.mp nd).1
            refine ⟨us, hD6, ?_, ⟨W4.F, wipeE W4.ev vs, wipeO W4.ow vs⟩, acc ++ [m], ⟨?_, ⟨us ++ [y], R ++ r4, upd_same, ?_, ?_, fun a ha => ?_, ?_⟩, ?_, fun hq => ?_⟩, by rw [e4]; exact hloop2⟩
            · have := L.len
              have h2 := it.small
              rw [RpMs.len rms]
              omega
            · have := S4.wipe vs
              rw [wsame] at this
              exact this.other pD.1 fun w => pD.2 (.inl (own_wipe w))
            · refine RpMs.keep (fun _ w => w) (fun a u f e => kD a u (fun w => pD.1 (w ▸ f)) e) _ (RpMs.snoc rms6 rm) fun a ha u e => kD a u (fun w => ?_) e
              subst w
              rcases List.mem_append.mp ha with w | w
              · exact DR w
              · exact Dr4 w
            · refine List.nodup_cons.mpr ⟨fun w => ?_, List.nodup_append.mpr ⟨(List.nodup_cons.mp nd).2, nd4, fun a ha b hb e => ?_⟩⟩
              · rcases List.mem_append.mp w with w | w
                · exact DR w
                · exact Dr4 w
              · subst e
                exact (pT a (List.mem_cons_of_mem _ ha)).2 (.inr hb)
            · have ha' : a ∈ D :: R ∨ a ∈ r4 := by
                rcases List.mem_cons.mp ha with w | w
                · exact .inl (w ▸ List.mem_cons_self ..)
                · rcases List.mem_append.mp w with w | w
                  · exact .inl (List.mem_cons_of_mem _ w)
                  · exact .inr w
              rcases ha' with w | w
              · exact ⟨(pT a w).1, fun o => (pT a w).2 (.inl (own_wipe o))⟩
              · exact ⟨(dj4 a w).1, fun o => (dj4 a w).2 (own_wipe o)⟩
            · have s1 := st.trans (stC.frame (T := fun x => x ∈ D :: R))
              refine s1.trans ⟨fun _ w => w, fun a u e no => kD a u (fun w => no (.inr (w ▸ List.mem_cons_self ..))) e, fun _ w => .inl w, fun a w => ?_⟩
              rcases w with w | w
              · exact .inl (.inl (.inl (own_wipe w)))
              · rcases List.mem_cons.mp w with w | w
                · exact .inl (.inr (w ▸ List.mem_cons_self ..))
                · rcases List.mem_append.mp w with w | w
                  · exact .inl (.inr (List.mem_cons_of_mem _ w))
                  · exact .inl (.inl (.inr w))
            · rw [List.length_append]
              have := L.len
              simp
              exact this
            · obtain ⟨l1, l2, l3⟩ := L.qt hq
              obtain ⟨w1, w2, w3⟩ := q3 hq
              obtain ⟨x1, x2, x3⟩ := q4 hq
              refine ⟨?_, ?_, fun a o w => ?_⟩
              · show wipeE W4.ev vs = _
                rw [x1, w1, evs, l1]
                exact wipeE_same (wipeE_len _ _) fun i hi => wipeE_out hi
              · show wipeO W4.ow vs = _
                rw [x2, w2, ows, l2]
                exact wipeO_same fun i hi => wipeO_out hi
              · refine kD a o (fun e => ?_) (x3 a o (w3 a o (ky a o (l3 a o w))))
                subst e
                rw [hD] at w
                cases w
theorem ge_lc (hc : X.calm = true) (hN : X.N.Nodup) (hi : GI X Ex q tg iter fi) (ok : BlkOk X.N X.env.scope scope own') (hset : notSet iter = true) (hts : ∀ i ∈ ts, i ∈ own'.map (·.2))
    (hg : ∀ (s : Shared) (H : Hp) (C : Addr) (cl : List (Str × Addr)) (fp : List Addr), GG (X.blk s H scope (compEnvC scope cl C X.env) fp) ts tg g)
    (ht : ∀ (s : Shared) (H : Hp) (C : Addr) (cl : List (Str × Addr)) (fp : List Addr), GTs (X.blk s H scope (compEnvC scope cl C X.env) fp) q ifs ft)
    (he : ∀ (s : Shared) (H : Hp) (C : Addr) (cl : List (Str × Addr)) (fp : List Addr), GE (X.blk s H scope (compEnvC scope cl C X.env) fp) E0x q RE elt fe) :
    GE X Ex q RE (.ListComp elt [⟨tg, iter, ifs, 0⟩] scope pos) (sLc (own'.map (·.2)) g ft fe fi) := by
  exact pe_weak (pe_lc (wi := tG X Ex q RI fi) (g := tGG X.K X.mg ts g) (tt := tG X E0x q RB ft) (te := tG X E0x q RE fe) hc hN hi ok hg ht he (folded_of hset _)) fun σ H Q z h => lc_imp hts h
end
end TW


set_option Elab.async false
set_option linter.all false
set_option maxRecDepth 100000
set_option maxHeartbeats 2000000
namespace TW
open PySem PySem.Spec PyProof.Rows L2

/-! ### statements -/
inductive Fl where
  | nx
  | bk
  | ct
  | rt (m : M)
def RFl (K : PySem.W.Frag) (mg : Str → Option Value) (W : Wl) (H : Hp) : Fl → V → List Addr → Prop
  | .rt m, v, r => RE K mg W H m v r
  | _, _, r => r = []
def DFl (D : Ends) : Fl → L2.St → Hp → V → Prop
  | .nx, σ, H, _ => D.nx σ H
  | .bk, σ, H, _ => D.bk σ H
  | .ct, σ, H, _ => D.ct σ H
  | .rt _, _, H, v => D.rt v H
def Pin (P : List Nat) (a b : L2.St) : Prop := ∀ i ∈ P, b[i]? = a[i]?
theorem Pin.refl {P : List Nat} {a : L2.St} : Pin P a a := fun _ _ => rfl
theorem Pin.trans {P : List Nat} {a b c : L2.St} (h : Pin P a b) (k : Pin P b c) : Pin P a c := fun i hi => (k i hi).trans (h i hi)
def RunS (K : PySem.W.Frag) (mg : Str → Option Value) (Ex : XK) (P : List Nat) (σ : L2.St) (W : Wl) (H : Hp) (f : Sm Fl) (D : Ends) : Prop :=
  match f W.ev with
  | .ok (fl, d') => ∀ σ' W' H' v r, W'.ev = d' → Sat K mg W' H' σ' → SzOk H' → Pin P σ σ' → RFl K mg W' H' fl v r → Stp (own W) W.F H (fun x => own W' x ∨ x ∈ r) W'.F H' → DFl D fl σ' H' v
  | .exc c => ∀ H', (∀ a o, H a = some o → ¬ own W a → H' a = some o) → Ew mg Ex c H'
  | .no => False
section
variable {K : PySem.W.Frag} {mg : Str → Option Value} {Ex : XK} {q : Bool} {α β γ δ : Type} {R : RR α β} {P : List Nat} {σ σ1 : L2.St} {W W1 : Wl} {H H1 : Hp} {f g F : Sm Fl} {D D' : Ends} {Q1 : β → Hp → Prop}
theorem RunS.fin {fl : Fl} {d' : Ev} (h : RunS K mg Ex P σ W H F D) (e : F W.ev = .ok (fl, d')) : ∀ σ' W' H' v r, W'.ev = d' → Sat K mg W' H' σ' → SzOk H' → Pin P σ σ' → RFl K mg W' H' fl v r → Stp (own W) W.F H (fun x => own W' x ∨ x ∈ r) W'.F H' → DFl D fl σ' H' v := by
  unfold RunS at h
  rw [e] at h
  exact h
/-- an expression in the middle, T pending -/
theorem RunS.sub {f1 : Sm α} {g1 : α → Sm Fl} {T : List Addr} (h : RunS K mg Ex P σ W H F D) (eF : F W.ev = bd f1 g1 W1.ev) (st : Stp (own W) W.F H (fun x => own W1 x ∨ x ∈ T) W1.F H1)
    (k : ∀ a v W2 H2 r2, f1 W1.ev = .ok (a, W2.ev) → F W.ev = g1 a W2.ev → Sat K mg W2 H2 σ1 → SzOk H2 → R K mg W2 H2 a v r2 → Stp (own W1) W1.F H1 (fun x => own W2 x ∨ x ∈ r2) W2.F H2 → (q = true → Quiet W1 W2 H1 H2) → Q1 v H2) :
    Run K mg Ex q R σ1 W1 H1 f1 Q1 := by
  unfold RunS at h
  unfold Run
  split
  · rename_i a d' e
    intro v W' H' r a1 a2 a3 a4 a5 a6
    refine k a v W' H' r (by rw [e, a1]) ?_ a2 a3 a4 a5 a6
    rw [eF]
    unfold bd
    rw [e, a1]
  · rename_i c e
    have e1 : F W.ev = .exc c := by rw [eF]; unfold bd; rw [e]
    rw [e1] at h
    intro H' kk
    refine h H' fun x o hx hn => kk x o (st.out x o hx hn) fun z => ?_
    rcases st.onew x (.inl z) with w | w
    · exact hn w
    · rw [hx] at w; cases w
  · rename_i e
    have e1 : F W.ev = .no := by rw [eF]; unfold bd; rw [e]
    rw [e1] at h
    exact h
/-- behind a part: no pending things -/
theorem RunS.next (h : RunS K mg Ex P σ W H F D) (e : F W.ev = g W1.ev) (st : Stp (own W) W.F H (own W1) W1.F H1) (pn : Pin P σ σ1) : RunS K mg Ex P σ1 W1 H1 g D := by
  unfold RunS at h ⊢
  rw [e] at h
  split
  · rename_i fl d' e2
    rw [e2] at h
    exact fun σ' W' H' v r a1 a2 a3 a4 a5 a6 => h σ' W' H' v r a1 a2 a3 (pn.trans a4) a5 (st.trans a6)
  · rename_i c e2
    rw [e2] at h
    intro H' k
    refine h H' fun x o hx hn => k x o (st.out x o hx hn) fun z => ?_
    rcases st.onew x z with w | w
    · exact hn w
    · rw [hx] at w; cases w
  · rename_i e2
    rw [e2] at h
    exact h
theorem RunS.mono (h : RunS K mg Ex P σ W H F D) (k : ∀ fl σ' H' v, DFl D fl σ' H' v → DFl D' fl σ' H' v) : RunS K mg Ex P σ W H F D' := by
  unfold RunS at h ⊢
  split
  · rename_i fl d' e
    rw [e] at h
    exact fun σ' W' H' v r a1 a2 a3 a4 a5 a6 => k _ _ _ _ (h σ' W' H' v r a1 a2 a3 a4 a5 a6)
  · rename_i c e
    rw [e] at h
    exact h
  · rename_i e
    rw [e] at h
    exact h
end
def tS (X : Cx) (Ex : XK) (P : List Nat) (f : Sm Fl) : TS := fun D σ H => ∃ W, Sat X.K X.mg W H σ ∧ RunS X.K X.mg Ex P σ W H f D
def GS (X : Cx) (Ex : XK) (P : List Nat) (st : Stmt) (f : Sm Fl) : Prop := PS X st (tS X Ex P f)
def GSs (X : Cx) (Ex : XK) (P : List Nat) (st : List Stmt) (f : Sm Fl) : Prop := PSs X st (tS X Ex P f)
/-- ends that may look at sizes -/
def Dz (D : Ends) : Ends := ⟨fun σ H => SzOk H → D.nx σ H, fun v H => SzOk H → D.rt v H, fun σ H => SzOk H → D.bk σ H, fun σ H => SzOk H → D.ct σ H⟩
def sNx : Sm Fl := sret .nx
def sSeq (f g : Sm Fl) : Sm Fl := bd f fun fl => match fl with
  | .nx => g
  | fl => sret fl
def sSet (i : Nat) (f : Sm M) : Sm Fl := bd f fun m ev => if i < ev.length then .ok (.nx, ev.set i (some m)) else .no
def sRt (f : Sm M) : Sm Fl := bd f fun m => sret (.rt m)
def sDrop {α : Type} (f : Sm α) : Sm Fl := bd f fun _ => sret .nx
section
variable {X : Cx} {Ex : XK} {P : List Nat} {st : Stmt} {sts : List Stmt} {f g : Sm Fl} {e c : Expr} {pos : Pos}
theorem ps_weak {t t' : TS} (h : PS X st t) (w : ∀ D σ H, SzOk H → t' D σ H → t (Dz D) σ H) : PS X st t' := by
  refine ⟨fun pins s σ H D I hw => thn (h.run pins s σ H (Dz D) I (w D σ H (szOk_of I) hw)) fun fl s' q => ?_⟩
  cases fl with
  | next => obtain ⟨σ', H', I', q⟩ := q; exact ⟨σ', H', I', q (szOk_of I')⟩
  | brk => obtain ⟨σ', H', I', q⟩ := q; exact ⟨σ', H', I', q (szOk_of I')⟩
  | cont => obtain ⟨σ', H', I', q⟩ := q; exact ⟨σ', H', I', q (szOk_of I')⟩
  | ret u => obtain ⟨v, σ', H', I', r, q⟩ := q; exact ⟨v, σ', H', I', r, q (szOk_of I')⟩
theorem pss_weak {t t' : TS} (h : PSs X sts t) (w : ∀ D σ H, SzOk H → t' D σ H → t (Dz D) σ H) : PSs X sts t' := by
  refine ⟨fun pins s σ H D I hw => thn (h.run pins s σ H (Dz D) I (w D σ H (szOk_of I) hw)) fun fl s' q => ?_⟩
  cases fl with
  | next => obtain ⟨σ', H', I', q⟩ := q; exact ⟨σ', H', I', q (szOk_of I')⟩
  | brk => obtain ⟨σ', H', I', q⟩ := q; exact ⟨σ', H', I', q (szOk_of I')⟩
  | cont => obtain ⟨σ', H', I', q⟩ := q; exact ⟨σ', H', I', q (szOk_of I')⟩
  | ret u => obtain ⟨v, σ', H', I', r, q⟩ := q; exact ⟨v, σ', H', I', r, q (szOk_of I')⟩
theorem dz_of {D : Ends} {fl : Fl} {σ : L2.St} {H : Hp} {v : V} (h : DFl D fl σ H v) : DFl (Dz D) fl σ H v := by
  cases fl <;> exact fun _ => h
theorem gss_nil : GSs X Ex P [] sNx := pss_weak pss_nil fun D σ H z ⟨W, S, h⟩ z2 => h.fin (fl := .nx) rfl σ W H .non [] rfl S z Pin.refl rfl (Stp.refl.less fun _ y => y.elim id fun y => by cases y)
/-- behind a first statement -/
theorem RunS.seq {K : PySem.W.Frag} {mg : Str → Option Value} {σ : L2.St} {W : Wl} {H : Hp} {D D1 : Ends} (h : RunS K mg Ex P σ W H (sSeq f g) D) (hr : ∀ v H', D.rt v H' → D1.rt v H') (hb : ∀ σ' H', D.bk σ' H' → D1.bk σ' H') (hc : ∀ σ' H', D.ct σ' H' → D1.ct σ' H')
    (hn : ∀ σ' W' H', Sat K mg W' H' σ' → SzOk H' → RunS K mg Ex P σ' W' H' g D → D1.nx σ' H') : RunS K mg Ex P σ W H f D1 := by
  unfold RunS
  split
  · rename_i fl d' e
    intro σ' W' H' v r a1 a2 a3 a4 a5 a6
    cases fl with
    | nx =>
      have en : r = [] := a5
      subst en
      refine hn σ' W' H' a2 a3 (h.next ?_ (a6.less fun x y => .inl y) a4)
      show bd f _ W.ev = _
      unfold bd
      rw [e, a1]
    | bk => exact hb _ _ (h.fin (fl := .bk) (d' := d') (by show bd f _ W.ev = _; unfold bd; rw [e] <;> rfl) σ' W' H' v r a1 a2 a3 a4 a5 a6)
    | ct => exact hc _ _ (h.fin (fl := .ct) (d' := d') (by show bd f _ W.ev = _; unfold bd; rw [e] <;> rfl) σ' W' H' v r a1 a2 a3 a4 a5 a6)
    | rt m => exact hr _ _ (h.fin (fl := .rt m) (d' := d') (by show bd f _ W.ev = _; unfold bd; rw [e] <;> rfl) σ' W' H' v r a1 a2 a3 a4 a5 a6)
  · rename_i c e
    have e1 : sSeq f g W.ev = .exc c := by show bd f _ W.ev = _; unfold bd; rw [e]
    unfold RunS at h
    rw [e1] at h
    exact h
  · rename_i e
    have e1 : sSeq f g W.ev = .no := by show bd f _ W.ev = _; unfold bd; rw [e]
    unfold RunS at h
    rw [e1] at h
    exact h
theorem gss_cons (h1 : GS X Ex P st f) (h2 : GSs X Ex P sts g) : GSs X Ex P (st :: sts) (sSeq f g) := by
  refine pss_weak (pss_cons h1 h2) fun D σ H z ⟨W, S, h⟩ => ⟨W, S, ?_⟩
  exact h.seq (fun v H' y _ => y) (fun _ _ y _ => y) (fun _ _ y _ => y) fun σ' W' H' S' z' y => ⟨W', S', y.mono fun fl σ' H' v => dz_of⟩
theorem gss_one (h1 : GS X Ex P st f) : GSs X Ex P [st] f := pss_one h1
theorem gs_if {tc : Sm Bool} {a b : List Stmt} (hc : GT X Ex false c tc) (ha : GSs X Ex P a f) (hb : GSs X Ex P b g) : GS X Ex P (.If c a b pos) (sIf tc f g) := by
  refine ps_weak (ps_if hc ha hb) fun D σ H z ⟨W, S, h⟩ => ⟨W, S, ?_⟩
  refine h.sub (W1 := W) (T := []) (g1 := fun r => if r = true then f else g) rfl (Stp.refl.less fun x y => y.elim id fun y => by cases y) fun d v W2 H2 r2 e2 e3 S2 z2 hr st qt => ?_
  obtain ⟨en, ev⟩ := hr
  subst en ev
  have st' := st.less (O2 := own W2) fun x y => .inl y
  cases v with
  | true => exact ⟨W2, S2, (h.next (g := f) e3 st' Pin.refl).mono fun fl σ' H' v => dz_of⟩
  | false => exact ⟨W2, S2, (h.next (g := g) e3 st' Pin.refl).mono fun fl σ' H' v => dz_of⟩
theorem gs_pass : GS X Ex P (.Pass pos) sNx := ps_weak ps_pass fun D σ H z ⟨W, S, h⟩ z2 => h.fin (fl := .nx) rfl σ W H .non [] rfl S z Pin.refl rfl (Stp.refl.less fun _ y => y.elim id fun y => by cases y)
theorem gs_break : GS X Ex P (.Break pos) (sret .bk) := ps_weak ps_break fun D σ H z ⟨W, S, h⟩ z2 => h.fin (fl := .bk) rfl σ W H .non [] rfl S z Pin.refl rfl (Stp.refl.less fun _ y => y.elim id fun y => by cases y)
theorem gs_continue : GS X Ex P (.Continue pos) (sret .ct) := ps_weak ps_continue fun D σ H z ⟨W, S, h⟩ z2 => h.fin (fl := .ct) rfl σ W H .non [] rfl S z Pin.refl rfl (Stp.refl.less fun _ y => y.elim id fun y => by cases y)
theorem gs_doc {x : Str} {j : Nat} {p p2 : Pos} : GS X Ex P (.Expr (.Constant (.str x) j p) p2) sNx := ps_weak ps_doc fun D σ H z ⟨W, S, h⟩ z2 => h.fin (fl := .nx) rfl σ W H .non [] rfl S z Pin.refl rfl (Stp.refl.less fun _ y => y.elim id fun y => by cases y)
theorem gs_retN : GS X Ex P (.Return none pos) (sret (.rt (.fz .none))) := ps_weak ps_retN fun D σ H z ⟨W, S, h⟩ z2 => h.fin (fl := .rt (.fz .none)) rfl σ W H .non [] rfl S z Pin.refl ⟨⟨rfl, rfl⟩, List.nodup_nil, fun a y => by cases y⟩ (Stp.refl.less fun _ y => y.elim id fun y => by cases y)
theorem gs_ret {fe : Sm M} (he : GE X Ex false RE e fe) : GS X Ex P (.Return (some e) pos) (sRt fe) := by
  refine ps_weak (ps_ret he) fun D σ H z ⟨W, S, h⟩ => ⟨W, S, ?_⟩
  refine h.sub (W1 := W) (T := []) (g1 := fun m => sret (.rt m)) rfl (Stp.refl.less fun x y => y.elim id fun y => by cases y) fun m v W2 H2 r2 e2 e3 S2 z2 hr st qt => ?_
  exact fun z3 => h.fin (fl := .rt m) e3 σ W2 H2 v r2 rfl S2 z3 Pin.refl hr st
theorem gs_expr {α : Type} {R : RR α V} {fe : Sm α} (he : GE X Ex false R e fe) (hs : swapsWith e none pos.line X.env = pure false) : GS X Ex P (.Expr e pos) (sDrop fe) := by
  refine ps_weak (ps_expr he hs) fun D σ H z ⟨W, S, h⟩ => ⟨W, S, ?_⟩
  refine h.sub (W1 := W) (T := []) (g1 := fun m => sret .nx) rfl (Stp.refl.less fun x y => y.elim id fun y => by cases y) fun m v W2 H2 r2 e2 e3 S2 z2 hr st qt => ?_
  exact fun z3 => h.fin (fl := .nx) e3 σ W2 H2 .non [] rfl S2 z3 Pin.refl rfl (st.less fun x y => .inl (y.elim id fun y => by cases y))
/-- a slot is set: the end -/
theorem RunS.set {K : PySem.W.Frag} {mg : Str → Option Value} {σ : L2.St} {W W2 : Wl} {H H2 : Hp} {D : Ends} {F : Sm Fl} {i : Nat} {m : M} {v : V} {r : List Addr} (h : RunS K mg Ex P σ W H F D) (hp : i ∉ P)
    (e3 : F W.ev = (if i < W2.ev.length then .ok (.nx, W2.ev.set i (some m)) else .no)) (S2 : Sat K mg W2 H2 σ) (z2 : SzOk H2) (hr : RE K mg W2 H2 m v r) (st : Stp (own W) W.F H (fun x => own W2 x ∨ x ∈ r) W2.F H2) : D.nx (σ.set i (some v)) H2 := by
  by_cases hl : i < W2.ev.length
  · rw [if_pos hl] at e3
    refine h.fin (fl := .nx) e3 (σ.set i (some v)) ⟨W2.F, W2.ev.set i (some m), updN W2.ow i r⟩ H2 .non [] rfl (S2.set hl hr.1 hr.2.1 hr.2.2) z2 (fun j hj => List.getElem?_set_ne (by intro y; subst y; exact hp hj)) rfl (st.less fun x y => ?_)
    rcases y with y | y
    · exact own_set y
    · cases y
  · rw [if_neg hl] at e3
    unfold RunS at h
    rw [e3] at h
    exact h.elim
theorem gs_set {i : Nat} {x : Str} {p : Pos} {fe : Sm M} (hN : X.N.Nodup) (hi : X.N[i]? = some x) (hx : Loc X.env.scope x) (hp : i ∉ P) (he : GE X Ex false RE e fe) (hs : swapsWith e (some (.Name x p)) pos.line X.env = pure false) (hf : X.fn x = true ∨ X.env.scope.names.lookup x = some .local) :
    GS X Ex P (.Assign [.Name x p] e pos) (sSet i fe) := by
  refine ps_weak (ps_set hN hi hx he hs hf) fun D σ H z ⟨W, S, h⟩ => ⟨W, S, ?_⟩
  refine h.sub (W1 := W) (T := []) rfl (Stp.refl.less fun x y => y.elim id fun y => by cases y) fun m v W2 H2 r2 e2 e3 S2 z2 hr st qt => ?_
  exact fun z3 => h.set hp e3 S2 z3 hr st
end
end TW


set_option Elab.async false
set_option linter.all false
set_option maxRecDepth 100000
set_option maxHeartbeats 2000000
namespace TW
open PySem PySem.Spec PyProof.Rows L2

/-- a slot's value moved out -/
def vM (i : Nat) : Sm M := fun d => match d[i]? with
  | some (some (.ml xs)) => .ok (.ml xs, d.set i none)
  | some (some m) => .ok (m, d)
  | _ => .no
section
variable {K : PySem.W.Frag} {mg : Str → Option Value} {W : Wl} {H : Hp} {σ : L2.St} {i : Nat} {m : M} {v : V} {r : List Addr}
theorem RpM.re (h : RpM K mg W.F H m v r) (n : ∀ xs, m ≠ .ml xs) : RE K mg W H m v [] := by
  have e := h.nil_of n
  subst e
  exact ⟨h, List.nodup_nil, fun a y => by cases y⟩
theorem set_of {α : Type} {l : List (Option α)} {i : Nat} {o : Option α} (h : l[i]? = some o) : l.set i o = l := by
  apply List.ext_getElem?
  intro j
  by_cases e : i = j
  · subst e
    rw [List.getElem?_set_self (List.getElem?_eq_some_iff.mp h).1, h]
  · rw [List.getElem?_set_ne e]
/-- a slot is frozen in its place -/
theorem Sat.fzSlot (S : Sat K mg W H σ) {d : PyData} (hm : W.ev[i]? = some (some m)) (hf : frz m = some d) : Sat K mg ⟨fun a => W.F a ∨ a ∈ W.ow i, W.ev.set i (some (.fz d)), updN W.ow i []⟩ H σ := by
  have hl : i < W.ev.length := (List.getElem?_eq_some_iff.mp hm).1
  obtain ⟨v, h1, h2⟩ := S.slot i m hm
  have S0 : Sat K mg ⟨fun a => W.F a ∨ a ∈ W.ow i, W.ev.set i none, updN W.ow i []⟩ H σ := by
    have := S.forget i (some v)
    rw [set_of h1] at this
    refine ⟨this.len, fun j m' hj => ?_, this.nil, this.nd, this.dj, fun j a ha hf => ?_, fun a ha => ?_⟩
    · obtain ⟨u, q1, q2⟩ := this.slot j m' hj
      exact ⟨u, q1, RpM.keep (fun _ y => .inl y) (fun _ _ _ y => y) m' q2 fun _ _ _ y => y⟩
    · rcases hf with y | y
      · exact this.nf j a ha y
      · have ha' : a ∈ updN W.ow i [] j := ha
        unfold updN at ha'
        by_cases e : j = i
        · rw [if_pos e] at ha'; cases ha'
        · rw [if_neg e] at ha'
          exact e (S.dj j i a ha' y)
    · rcases ha with y | y
      · exact S.ft a y
      · exact RpM.there m h2 a y
  have hr : Rp (fun a => W.F a ∨ a ∈ W.ow i) H d v := RpM.freeze (fun _ y => .inl y) m h2 (fun a y => .inr y) hf
  have S1 := S0.set (i := i) (m := .fz d) (v := v) (r := []) (by simpa using hl) ⟨rfl, hr⟩ List.nodup_nil fun a y => by cases y
  rw [set_of h1] at S1
  have e1 : (W.ev.set i none).set i (some (.fz d)) = W.ev.set i (some (.fz d)) := by rw [List.set_set]
  have e2 : updN (updN W.ow i []) i [] = updN W.ow i [] := by
    funext j
    unfold updN
    split <;> rfl
  have S2 : Sat K mg ⟨fun a => W.F a ∨ a ∈ W.ow i, (W.ev.set i none).set i (some (.fz d)), updN (updN W.ow i []) i []⟩ H σ := S1
  rw [e1, e2] at S2
  exact S2
theorem own_upd0 {F : Addr → Prop} {ev : Ev} {a : Addr} (h : own ⟨F, ev, updN W.ow i []⟩ a) : own W a := by
  obtain ⟨j, h⟩ := h
  have h' : a ∈ updN W.ow i [] j := h
  unfold updN at h'
  by_cases e : j = i
  · rw [if_pos e] at h'; cases h'
  · rw [if_neg e] at h'; exact ⟨j, h'⟩
end
section
variable {X : Cx} {Ex : XK} {q : Bool} {i : Nat} {x : Str} {pos : Pos}
theorem no_of {α β : Type} {R : RR α β} {K mg} {σ : L2.St} {W : Wl} {H : Hp} {f : Sm α} {Q : β → Hp → Prop} (h : Run K mg Ex q R σ W H f Q) (e : f W.ev = .no) : False := by
  unfold Run at h
  rw [e] at h
  exact h
theorem ge_vE (hN : X.N[i]? = some x) (hv : Vis X.env.scope x) (hd : (x == ("__debug__" : Str)) = false) (hcd : (x == ("__classdict__" : Str)) = false) : GE X Ex false RE (.Name x pos) (vE i) := by
  refine pe_weak (pe_var hN hv hd hcd) fun σ H Q z ⟨W, S, h⟩ => ?_
  cases e : W.ev[i]? with
  | none => exact (no_of h (by unfold vE; rw [e])).elim
  | some o =>
    cases o with
    | none => exact (no_of h (by unfold vE; rw [e])).elim
    | some m =>
      obtain ⟨v, h1, h2⟩ := S.slot i _ e
      refine ⟨v, h1, fun z2 => ?_⟩
      cases m with
      | fz d => exact h.fin (a := .fz d) (d' := W.ev) (by unfold vE; rw [e]) v W H [] rfl S z2 (h2.re fun _ y => by cases y) (Stp.refl.less fun _ y => y.elim id fun y => by cases y) fun y => .refl
      | fn d => exact h.fin (a := .fn d) (d' := W.ev) (by unfold vE; rw [e]) v W H [] rfl S z2 (h2.re fun _ y => by cases y) (Stp.refl.less fun _ y => y.elim id fun y => by cases y) fun y => .refl
      | sc d => exact h.fin (a := .sc d) (d' := W.ev) (by unfold vE; rw [e]) v W H [] rfl S z2 (h2.re fun _ y => by cases y) (Stp.refl.less fun _ y => y.elim id fun y => by cases y) fun y => .refl
      | ml xs =>
        cases e2 : frzs xs with
        | none => exact (no_of h (by unfold vE; rw [e]; show (match frzs xs with | some ds => _ | none => _) = _; rw [e2])).elim
        | some ds =>
          have ef : frz (.ml xs) = some (.list ds) := by show (match frzs xs with | some ds => some (PyData.list ds) | none => none) = _; rw [e2]
          have e1 : vE i W.ev = .ok (.fz (.list ds), W.ev.set i (some (.fz (.list ds)))) := by unfold vE; rw [e]; show (match frzs xs with | some ds => _ | none => _) = _; rw [e2]
          refine h.fin e1 v ⟨fun a => W.F a ∨ a ∈ W.ow i, W.ev.set i (some (.fz (.list ds))), updN W.ow i []⟩ H [] rfl (S.fzSlot e ef) z2 ⟨⟨rfl, ?_⟩, List.nodup_nil, fun a y => by cases y⟩ ⟨fun _ y => .inl y, fun _ _ y _ => y, fun a y => ?_, fun a y => ?_⟩ fun y => by cases y
          · exact RpM.freeze (fun _ y => .inl y) _ h2 (fun a y => .inr y) ef
          · rcases y with y | y
            · exact .inl y
            · exact .inr (.inl ⟨i, y⟩)
          · rcases y with y | y
            · exact .inl (own_upd0 y)
            · cases y
theorem ge_vM (hN : X.N[i]? = some x) (hv : Vis X.env.scope x) (hd : (x == ("__debug__" : Str)) = false) (hcd : (x == ("__classdict__" : Str)) = false) : GE X Ex false RE (.Name x pos) (vM i) := by
  refine pe_weak (pe_var hN hv hd hcd) fun σ H Q z ⟨W, S, h⟩ => ?_
  cases e : W.ev[i]? with
  | none => exact (no_of h (by unfold vM; rw [e])).elim
  | some o =>
    cases o with
    | none => exact (no_of h (by unfold vM; rw [e])).elim
    | some m =>
      obtain ⟨v, h1, h2⟩ := S.slot i _ e
      refine ⟨v, h1, fun z2 => ?_⟩
      cases m with
      | fz d => exact h.fin (a := .fz d) (d' := W.ev) (by unfold vM; rw [e]) v W H [] rfl S z2 (h2.re fun _ y => by cases y) (Stp.refl.less fun _ y => y.elim id fun y => by cases y) fun y => .refl
      | fn d => exact h.fin (a := .fn d) (d' := W.ev) (by unfold vM; rw [e]) v W H [] rfl S z2 (h2.re fun _ y => by cases y) (Stp.refl.less fun _ y => y.elim id fun y => by cases y) fun y => .refl
      | sc d => exact h.fin (a := .sc d) (d' := W.ev) (by unfold vM; rw [e]) v W H [] rfl S z2 (h2.re fun _ y => by cases y) (Stp.refl.less fun _ y => y.elim id fun y => by cases y) fun y => .refl
      | ml xs =>
        have S1 := S.forget i (some v)
        rw [set_of h1] at S1
        refine h.fin (a := .ml xs) (d' := W.ev.set i none) (by unfold vM; rw [e]) v ⟨W.F, W.ev.set i none, updN W.ow i []⟩ H (W.ow i) rfl S1 z2 ⟨h2, S.nd i, fun a ha => ⟨S.nf i a ha, fun y => ?_⟩⟩ ⟨fun _ y => y, fun _ _ y _ => y, fun a y => .inl y, fun a y => ?_⟩ fun y => by cases y
        · obtain ⟨j, hj⟩ := y
          have hj' : a ∈ updN W.ow i [] j := hj
          unfold updN at hj'
          by_cases ee : j = i
          · rw [if_pos ee] at hj'; cases hj'
          · rw [if_neg ee] at hj'
            exact ee (S.dj j i a hj' ha)
        · rcases y with y | y
          · exact .inl (own_upd0 y)
          · exact .inl ⟨i, y⟩
end

/-! ### a list that a slot owns is written -/
section
variable {K : PySem.W.Frag} {mg : Str → Option Value} {W : Wl} {H : Hp} {σ : L2.St} {i : Nat} {ms ms' : List M} {vs vs' : List V} {a : Addr} {o' o'' : List Addr}
theorem Sat.mut (S : Sat K mg W H σ) (hi : W.ev[i]? = some (some (.ml ms))) (ho : W.ow i = a :: o') (hs : σ[i]? = some (some (.ref a))) (hm : RpMs K mg W.F (upd H a (.lst vs')) ms' vs' o'') (nd : (a :: o'').Nodup) (dj : ∀ b ∈ o'', ¬ W.F b ∧ ∀ j, b ∈ W.ow j → j = i) :
    Sat K mg ⟨W.F, W.ev.set i (some (.ml ms')), updN W.ow i (a :: o'')⟩ (upd H a (.lst vs')) σ := by
  have hl : i < W.ev.length := (List.getElem?_eq_some_iff.mp hi).1
  have ai : a ∈ W.ow i := by rw [ho]; exact List.mem_cons_self ..
  have k : ∀ b u, b ≠ a → H b = some u → (upd H a (.lst vs')) b = some u := fun b u n e => by rw [upd_ne n]; exact e
  have dj' : ∀ b ∈ a :: o'', ¬ W.F b ∧ ∀ j, b ∈ W.ow j → j = i := fun b hb => by
    rcases List.mem_cons.mp hb with y | y
    · subst y
      exact ⟨S.nf i b ai, fun j hj => S.dj j i b hj ai⟩
    · exact dj b y
  refine ⟨by rw [S.len]; exact (List.length_set ..).symm, fun j m hj => ?_, fun j hj => ?_, fun j => ?_, fun j l b h1 h2 => ?_, fun j b hb hf => ?_, fun b hb => ?_⟩
  · have hj' : (W.ev.set i (some (.ml ms')))[j]? = some (some m) := hj
    by_cases e : j = i
    · subst e
      rw [List.getElem?_set_self hl] at hj'
      cases hj'
      refine ⟨.ref a, hs, ?_⟩
      show RpM K mg W.F _ (.ml ms') (.ref a) (updN W.ow j (a :: o'') j)
      unfold updN
      rw [if_pos rfl]
      exact ⟨a, vs', o'', rfl, upd_same, rfl, hm⟩
    · rw [List.getElem?_set_ne (Ne.symm e)] at hj'
      obtain ⟨u, h1, h2⟩ := S.slot j m hj'
      refine ⟨u, h1, ?_⟩
      show RpM K mg W.F _ m u (updN W.ow i (a :: o'') j)
      unfold updN
      rw [if_neg e]
      exact RpM.keep (fun _ y => y) (fun b u f y => k b u (fun z => S.nf i a ai (z ▸ f)) y) m h2 fun b hb u y => k b u (fun z => e (S.dj j i a (z ▸ hb) ai)) y
  · show updN W.ow i (a :: o'') j = []
    unfold updN
    by_cases e : j = i
    · subst e
      exact absurd (List.getElem?_set_self hl) (hj (.ml ms'))
    · rw [if_neg e]
      refine S.nil j fun m z => hj m ?_
      show (W.ev.set i (some (.ml ms')))[j]? = _
      rw [List.getElem?_set_ne (Ne.symm e)]
      exact z
  · show (updN W.ow i (a :: o'') j).Nodup
    unfold updN
    split
    · exact nd
    · exact S.nd j
  · have h1' : b ∈ updN W.ow i (a :: o'') j := h1
    have h2' : b ∈ updN W.ow i (a :: o'') l := h2
    unfold updN at h1' h2'
    by_cases e1 : j = i <;> by_cases e2 : l = i
    · rw [e1, e2]
    · rw [if_pos e1] at h1'; rw [if_neg e2] at h2'
      exact absurd ((dj' b h1').2 l h2') e2
    · rw [if_neg e1] at h1'; rw [if_pos e2] at h2'
      exact absurd ((dj' b h2').2 j h1') e1
    · rw [if_neg e1] at h1'; rw [if_neg e2] at h2'
      exact S.dj j l b h1' h2'
  · have hb' : b ∈ updN W.ow i (a :: o'') j := hb
    unfold updN at hb'
    by_cases e1 : j = i
    · rw [if_pos e1] at hb'
      exact (dj' b hb').1 hf
    · rw [if_neg e1] at hb'
      exact S.nf j b hb' hf
  · cases e : H b with
    | none => exact absurd e (S.ft b hb)
    | some u =>
      rw [k b u (fun z => S.nf i a ai (z ▸ hb)) e]
      exact fun z => by cases z
/-- the step of such a writing; r was pending -/
theorem Stp.mut {O F : Addr → Prop} {H0 : Hp} {r : List Addr} {ev' : Ev} (st : Stp O F H0 (fun x => own W x ∨ x ∈ r) W.F H) (ho : W.ow i = a :: o') (sub : ∀ b ∈ o'', b ∈ W.ow i ∨ b ∈ r) :
    Stp O F H0 (own ⟨W.F, ev', updN W.ow i (a :: o'')⟩) W.F (upd H a (.lst vs')) := by
  refine st.trans (⟨fun _ y => y, fun b u e no => ?_, fun _ y => .inl y, fun b y => ?_⟩ : Stp (fun x => own W x ∨ x ∈ r) W.F H _ W.F _)
  · rw [upd_ne fun z => no (.inl ⟨i, by rw [ho, z]; exact List.mem_cons_self ..⟩)]
    exact e
  · obtain ⟨j, hj⟩ := y
    have hj' : b ∈ updN W.ow i (a :: o'') j := hj
    unfold updN at hj'
    by_cases e : j = i
    · rw [if_pos e] at hj'
      rcases List.mem_cons.mp hj' with z | z
      · exact .inl (.inl ⟨i, by rw [ho, z]; exact List.mem_cons_self ..⟩)
      · rcases sub b z with w | w
        · exact .inl (.inl ⟨i, w⟩)
        · exact .inl (.inr w)
    · rw [if_neg e] at hj'
      exact .inl (.inl ⟨j, hj'⟩)
theorem Sat.mlAt (S : Sat K mg W H σ) (hi : W.ev[i]? = some (some (.ml ms))) : ∃ a vs o', σ[i]? = some (some (.ref a)) ∧ H a = some (.lst vs) ∧ W.ow i = a :: o' ∧ RpMs K mg W.F H ms vs o' ∧ (a :: o').Nodup ∧ (∀ b ∈ o', ¬ W.F b ∧ ∀ j, b ∈ W.ow j → j = i) ∧ a ∉ o' := by
  obtain ⟨v, h1, a, vs, o', e, l, eo, r⟩ := S.slot i _ hi
  subst e
  have nd : (a :: o').Nodup := by rw [← eo]; exact S.nd i
  refine ⟨a, vs, o', h1, l, eo, r, nd, fun b hb => ?_, (List.nodup_cons.mp nd).1⟩
  have hb' : b ∈ W.ow i := by rw [eo]; exact List.mem_cons_of_mem _ hb
  exact ⟨S.nf i b hb', fun j hj => S.dj j i b hj hb'⟩
theorem upd_keep {F : Addr → Prop} {vs0 : List V} (S : Sat K mg W H σ) (ai : a ∈ W.ow i) (hm : RpMs K mg W.F H ms vs0 o'') (hn : a ∉ o'') : RpMs K mg W.F (upd H a (.lst vs')) ms vs0 o'' :=
  RpMs.keep (fun _ y => y) (fun b u f y => by rw [upd_ne (by intro z; subst z; exact S.nf i _ ai f)]; exact y) ms hm fun b hb u y => by rw [upd_ne (by intro z; subst z; exact hn hb)]; exact y
end
end TW


set_option Elab.async false
set_option linter.all false
set_option maxRecDepth 100000
set_option maxHeartbeats 2000000
namespace TW
open PySem PySem.Spec PyProof.Rows L2

section
variable {X : Cx} {Ex : XK} {P : List Nat} {st : Stmt} {sts : List Stmt} {f g : Sm Fl} {e a b c : Expr} {pos p p2 : Pos} {i j : Nat} {x y : Str} {q : Bool}

/-! ### name = [.. for ..] on one line -/
theorem gs_setLc {elt tg iter : Expr} {ifs : List Expr} {scope : Scope} {own' : List (Str × Nat)} {fi : Sm (List PyData)} {g : PyData → Ev → Option Ev} {ft : Sm Bool} {fe : Sm M} {ts : List Nat} (hc : X.calm = true) (hN : X.N.Nodup) (hy : X.N[i]? = some y) (hyl : X.env.scope.names.lookup y = some .local) (hp : i ∉ P)
    (hsw : swapsWith (.ListComp elt [⟨tg, iter, ifs, 0⟩] scope pos) (some (.Name y p)) p2.line X.env = pure true) (hi : GI X Ex q tg iter fi) (ok : BlkOk X.N X.env.scope scope own') (hset : notSet iter = true) (hts : ∀ i ∈ ts, i ∈ own'.map (·.2))
    (hg : ∀ (s : Shared) (H : Hp) (C : Addr) (cl : List (Str × Addr)) (fp : List Addr), GG (X.blk s H scope (compEnvC scope cl C X.env) fp) ts tg g)
    (ht : ∀ (s : Shared) (H : Hp) (C : Addr) (cl : List (Str × Addr)) (fp : List Addr), GTs (X.blk s H scope (compEnvC scope cl C X.env) fp) q ifs ft)
    (he : ∀ (s : Shared) (H : Hp) (C : Addr) (cl : List (Str × Addr)) (fp : List Addr), GE (X.blk s H scope (compEnvC scope cl C X.env) fp) E0x q RE elt fe) :
    GS X Ex P (.Assign [.Name y p] (.ListComp elt [⟨tg, iter, ifs, 0⟩] scope pos) p2) (sSet i (sLc (own'.map (·.2)) g ft fe fi)) := by
  refine ps_weak (ps_setLc (wi := tG X Ex q RI fi) (g := tGG X.K X.mg ts g) (tt := tG X E0x q RB ft) (te := tG X E0x q RE fe) hc hN hy hyl hsw hi ok hg ht he (folded_of hset _)) fun D σ H z ⟨W, S, h⟩ => ?_
  have key : tG X Ex q RE (sLc (own'.map (·.2)) g ft fe fi) σ H (fun v H' => SzOk H' → D.nx (σ.set i (some v)) H') := by
    refine ⟨W, S, ?_⟩
    refine h.sub (W1 := W) (T := []) rfl (Stp.refl.less fun x y => y.elim id fun y => by cases y) fun m v W2 H2 r2 e2 e3 S2 z2 hr st qt => ?_
    exact fun z3 => h.set hp e3 S2 z3 hr st
  have m := lc_imp hts key
  obtain ⟨W', S', m⟩ := m
  refine ⟨W', S', m.mono fun J H1 k D' hD => ?_⟩
  obtain ⟨Wn, w0, k⟩ := k D' hD
  refine ⟨Wn, w0, fun i m H hw => ?_⟩
  rcases k i m H hw with ⟨k1, k2⟩ | k1
  · exact .inl ⟨k1, fun z3 => k2 z3 z3⟩
  · exact .inr k1

/-! ### name op= e, of ints -/
def augI : Operator → Int → Int → Option Int
  | .Add, i, j => some (i + j)
  | .Sub, i, j => some (i - j)
  | _, _, _ => none
theorem ip_aug (op : Operator) : PIp X op (fun x y H Q => ∃ i j k, x = .int i ∧ y = .int j ∧ augI op i j = some k ∧ Q (.int k) H) := by
  intro pins s σ H x y v u Q I r1 r2 h
  obtain ⟨i, j, k, e1, e2, e3, q⟩ := h
  cases op with
  | Add => cases e3; exact ip_add pins s σ H x y v u Q I r1 r2 ⟨i, j, e1, e2, q⟩
  | Sub => cases e3; exact ip_sub pins s σ H x y v u Q I r1 r2 ⟨i, j, e1, e2, q⟩
  | _ => cases e3
def sAug (i : Nat) (op : Operator) (fe : Sm PyData) : Sm Fl := bd (vF i) fun d => bd fe fun e => match d, e with
  | .int a, .int b => (match augI op a b with
    | some k => sSet i (sret (.fz (.int k)))
    | none => sfail)
  | _, _ => sfail
theorem no_s {K : PySem.W.Frag} {mg : Str → Option Value} {σ : L2.St} {W : Wl} {H : Hp} {F : Sm Fl} {D : Ends} (h : RunS K mg Ex P σ W H F D) (e : F W.ev = .no) : False := by
  unfold RunS at h
  rw [e] at h
  exact h
theorem Run.slotF {K : PySem.W.Frag} {mg : Str → Option Value} {σ : L2.St} {W : Wl} {H : Hp} (S : Sat K mg W H σ) : (∃ d v, W.ev[i]? = some (some (.fz d)) ∧ vF i W.ev = .ok (d, W.ev) ∧ σ[i]? = some (some v) ∧ Rp W.F H d v) ∨ vF i W.ev = .no := by
  cases e : W.ev[i]? with
  | none => exact .inr (by unfold vF; rw [e])
  | some o =>
    cases o with
    | none => exact .inr (by unfold vF; rw [e])
    | some m =>
      cases m with
      | fz d =>
        obtain ⟨v, h1, h2⟩ := S.slot i _ e
        exact .inl ⟨d, v, rfl, by unfold vF; rw [e], h1, h2.2⟩
      | _ => exact .inr (by unfold vF; rw [e])
theorem gs_aug {op : Operator} {fe : Sm PyData} (hN : X.N.Nodup) (hi : X.N[i]? = some x) (hx : Loc X.env.scope x) (hp : i ∉ P) (he : GE X Ex false RF e fe) (hf : X.fn x = true ∨ X.env.scope.names.lookup x = some .local) :
    GS X Ex P (.AugAssign (.Name x p) op e pos) (sAug i op fe) := by
  refine ps_weak (ps_aug hN hi hx he (ip_aug op) hf) fun D σ H z ⟨W, S, h⟩ => ?_
  rcases Run.slotF (i := i) S with ⟨d, v, e1, e2, e3, r1⟩ | e1
  · have eF : sAug i op fe W.ev = bd fe (fun e => match d, e with
      | .int a, .int b => (match augI op a b with
        | some k => sSet i (sret (.fz (.int k)))
        | none => sfail)
      | _, _ => sfail) W.ev := by show bd (vF i) _ W.ev = _; unfold bd; rw [e2]
    refine ⟨v, e3, W, S, h.sub (W1 := W) (T := []) eF (Stp.refl.less fun x y => y.elim id fun y => by cases y) fun u w W2 H2 r2 e4 e5 S2 z2 hr st qt => ?_⟩
    obtain ⟨en, r3⟩ := hr
    subst en
    have st' := st.less (O2 := own W2) fun x y => .inl y
    cases d with
    | int a =>
      cases u with
      | int b =>
        cases (show v = .int a from r1)
        cases (show w = .int b from r3)
        cases ek : augI op a b with
        | none =>
          have e6 : sAug i op fe W.ev = (match augI op a b with
            | some k => sSet i (sret (.fz (.int k)))
            | none => sfail) W2.ev := e5
          rw [ek] at e6
          exact (no_s h e6).elim
        | some k =>
          have e6 : sAug i op fe W.ev = (match augI op a b with
            | some k => sSet i (sret (.fz (.int k)))
            | none => sfail) W2.ev := e5
          rw [ek] at e6
          exact ⟨a, b, k, rfl, rfl, ek, fun z3 => h.set (m := .fz (.int k)) (r := []) hp e6 S2 z3 ⟨⟨rfl, rfl⟩, List.nodup_nil, fun a y => by cases y⟩ st⟩
      | _ => exact (no_s h e5).elim
    | _ => exact (no_s h e5).elim
  · exact (no_s h (by show bd (vF i) _ W.ev = _; unfold bd; rw [e1])).elim

/-! ### a, b = c, d: both stored behind -/
def sPar (i j : Nat) (fs : Sm (List M)) : Sm Fl := bd fs fun ms ev => match ms with
  | [m1, m2] => if i < ev.length ∧ j < ev.length then .ok (.nx, (ev.set i (some m1)).set j (some m2)) else .no
  | _ => .no
def sPar3 (i j l : Nat) (fs : Sm (List M)) : Sm Fl := bd fs fun ms ev => match ms with
  | [m1, m2, m3] => if i < ev.length ∧ j < ev.length ∧ l < ev.length then .ok (.nx, ((ev.set i (some m1)).set j (some m2)).set l (some m3)) else .no
  | _ => .no
theorem Sat.dropO {K : PySem.W.Frag} {mg : Str → Option Value} {W : Wl} {H : Hp} {σ : L2.St} {m : M} {v : V} {r : List Addr} (hi : i < W.ev.length) (S : Sat K mg W H σ) (hm : RE K mg W H m v r) :
    Sat K mg ⟨W.F, W.ev.set i (some m), updN W.ow i r⟩ H (σ.set i (some v)) := S.set hi hm.1 hm.2.1 hm.2.2
theorem gs_par {kt k2 : Nat} {pt pt2 : Pos} {fs : Sm (List M)} (hc : X.calm = true) (hN : X.N.Nodup) (hi : X.N[i]? = some x) (hj : X.N[j]? = some y) (hij : i ≠ j) (hx : X.env.scope.names.lookup x = some .local) (hy : X.env.scope.names.lookup y = some .local) (hp1 : i ∉ P) (hp2 : j ∉ P)
    (ha : GA X Ex false (RLE 2) [a, b] fs) (hw : swappedStores [.Tuple [.Name x p, .Name y p2] kt pt] (.Tuple [a, b] k2 pt2) X.env = pure (some [x, y])) (hs : swapsWithSole [.Tuple [.Name x p, .Name y p2] kt pt] (.Tuple [a, b] k2 pt2) pos.line X.env = pure false) :
    GS X Ex P (.Assign [.Tuple [.Name x p, .Name y p2] kt pt] (.Tuple [a, b] k2 pt2) pos) (sPar i j fs) := by
  refine ps_weak (ps_par hc hN hi hj hij hx hy ha hw hs) fun D σ H z ⟨W, S, h⟩ => ⟨W, S, ?_⟩
  refine h.sub (W1 := W) (T := []) rfl (Stp.refl.less fun x y => y.elim id fun y => by cases y) fun ms vs W2 H2 r2 e2 e3 S2 z2 hr st qt => ?_
  obtain ⟨rms, nd, dj, ln⟩ := hr
  match ms, ln with
  | [m1, m2], _ =>
    obtain ⟨v1, t1, o1, o2, ev1, eo1, h1, v2, t2, o3, o4, ev2, eo2, h2, ev3, eo3⟩ := rms
    subst ev1 ev2 ev3 eo1 eo2 eo3
    rw [List.append_nil] at nd dj st
    obtain ⟨n1, n2, n3⟩ := List.nodup_append.mp nd
    by_cases hl : i < W2.ev.length ∧ j < W2.ev.length
    · have e4 : sPar i j fs W.ev = .ok (.nx, (W2.ev.set i (some m1)).set j (some m2)) := by rw [e3]; show (if i < W2.ev.length ∧ j < W2.ev.length then _ else _) = _; rw [if_pos hl]
      refine ⟨v1, v2, rfl, fun z3 => ?_⟩
      have Sa := S2.set (i := i) hl.1 h1 n1 fun a ha => dj a (List.mem_append_left _ ha)
      have Sb := Sa.set (i := j) (m := m2) (v := v2) (r := o3) (by show j < (W2.ev.set i (some m1)).length; rw [List.length_set]; exact hl.2) h2 n2 fun a ha => ⟨(dj a (List.mem_append_right _ ha)).1, fun y => by
        rcases own_set (m := m1) y with w | w
        · exact (dj a (List.mem_append_right _ ha)).2 w
        · exact n3 a w a ha rfl⟩
      refine h.fin (fl := .nx) e4 _ ⟨W2.F, (W2.ev.set i (some m1)).set j (some m2), updN (updN W2.ow i o1) j o3⟩ H2 .non [] rfl Sb z3 (fun l hl => ?_) rfl (st.less fun x y => ?_)
      · rw [List.getElem?_set_ne (by intro y; subst y; exact hp2 hl), List.getElem?_set_ne (by intro y; subst y; exact hp1 hl)]
      · rcases y with y | y
        · rcases own_set (W := ⟨W2.F, W2.ev.set i (some m1), updN W2.ow i o1⟩) (m := m2) y with w | w
          · rcases own_set (m := m1) w with w | w
            · exact .inl w
            · exact .inr (List.mem_append_left _ w)
          · exact .inr (List.mem_append_right _ w)
        · cases y
    · exact (no_s h (by rw [e3]; show (if i < W2.ev.length ∧ j < W2.ev.length then _ else _) = _; rw [if_neg hl])).elim

/-! ### target = e, the value frozen -/
def sAsg (g : PyData → Ev → Option Ev) (fe : Sm PyData) : Sm Fl := bd fe fun d ev => match g d ev with
  | some ev' => .ok (.nx, ev')
  | none => .no
theorem gs_asg {tg : Expr} {ts : List Nat} {g : PyData → Ev → Option Ev} {fe : Sm PyData} (he : GE X Ex false RF e fe) (hg : GG X ts tg g) (hp : ∀ i ∈ P, i ∉ ts) (hs : swapsWithSole [tg] e pos.line X.env = pure false) (hw : swappedStores [tg] e X.env = pure none)
    (h1 : (assignEach [tg] X.env).map (·.2) = [assign tg X.env]) : GS X Ex P (.Assign [tg] e pos) (sAsg g fe) := by
  refine ps_weak (ps_asg he hg hs hw h1) fun D σ H z ⟨W, S, h⟩ => ⟨W, S, ?_⟩
  refine h.sub (W1 := W) (T := []) rfl (Stp.refl.less fun x y => y.elim id fun y => by cases y) fun d v W2 H2 r2 e2 e3 S2 z2 hr st qt => ?_
  obtain ⟨en, r1⟩ := hr
  subst en
  cases eg : g d W2.ev with
  | none => exact (no_s h (by rw [e3]; show (match g d W2.ev with | some ev' => _ | none => _) = _; rw [eg])).elim
  | some ev' =>
    refine ⟨W2, d, S2, r1, ev', eg, fun σ' W' a1 a2 a3 a4 al a5 => fun z3 => ?_⟩
    refine h.fin (fl := .nx) (d' := ev') (by rw [e3]; show (match g d W2.ev with | some ev' => _ | none => _) = _; rw [eg]) σ' W' H2 .non [] a1 a4 z3 (fun l hl => (a5 l (hp l hl)).1) rfl ?_
    have := st.less (O2 := own W') fun x y => .inl (a3 x y)
    rw [a2]
    exact this.less fun x y => y.elim id fun y => by cases y

/-! ### for -/
def forLoop (g : PyData → Ev → Option Ev) (fb : Sm Fl) : List PyData → Sm Fl
  | [], ev => .ok (.nx, ev)
  | d :: ds, ev => match g d ev with
    | none => .no
    | some ev1 => match fb ev1 with
      | .ok (.nx, ev2) => forLoop g fb ds ev2
      | .ok (.ct, ev2) => forLoop g fb ds ev2
      | .ok (.bk, ev2) => .ok (.nx, ev2)
      | .ok (.rt m, ev2) => .ok (.rt m, ev2)
      | .exc c => .exc c
      | .no => .no
def sFor (g : PyData → Ev → Option Ev) (fb : Sm Fl) (fi : Sm (List PyData)) : Sm Fl := bd fi fun items => forLoop g fb items
theorem gs_for {tg iter : Expr} {body : List Stmt} {ts : List Nat} {g : PyData → Ev → Option Ev} {fb : Sm Fl} {fi : Sm (List PyData)} (ho : PassesOwn (model X.prog X.w) X.A X.env X.xe) (hc : X.calm = true) (hi : GI X Ex false tg iter fi) (hg : GG X ts tg g) (hp : ∀ i ∈ P, i ∉ ts) (hb : GSs X Ex P body fb) (hset : notSet iter = true) :
    GS X Ex P (.For tg iter body [] pos) (sFor g fb fi) := by
  refine ps_weak (ps_for ho hc hi hg hb (folded_of hset _)) fun D σ H z ⟨W, S, h⟩ => ⟨W, S, ?_⟩
  refine h.sub (W1 := W) (T := []) rfl (Stp.refl.less fun x y => y.elim id fun y => by cases y) fun items J W1 H1 r1 e1 e3 S1 z1 hr st qt => ?_
  obtain ⟨en, it⟩ := hr
  subst en
  have st1 := st.less (O2 := own W1) fun x y => .inl y
  have h1 := h.next (g := forLoop g fb items) e3 st1 Pin.refl
  refine ⟨fun n m σ' H' => m = items.length - n ∧ n ≤ items.length ∧ ∃ Wb, Sat X.K X.mg Wb H' σ' ∧ RunS X.K X.mg Ex P σ' Wb H' (forLoop g fb (items.drop n)) D ∧ (∀ a, W1.F a → Wb.F a) ∧ (∀ a o, W1.F a → H1 a = some o → H' a = some o),
    ⟨items.length, by simp, Nat.zero_le _, W1, S1, by simpa using h1, fun _ y => y, fun _ _ _ y => y⟩, ?_⟩
  rintro n m σ2 H2 ⟨rfl, hn, Wb, Sb, hl, mF, kF⟩
  by_cases hlt : n < items.length
  case neg =>
    have en : n = items.length := by omega
    subst en
    refine .inl ⟨it.stop Wb.F H2 mF kF _ (Nat.le_refl _), fun z2 => ?_⟩
    rw [List.drop_length] at hl
    exact hl.fin (fl := .nx) rfl σ2 Wb H2 .non [] rfl Sb z2 Pin.refl rfl (Stp.refl.less fun _ y => y.elim id fun y => by cases y)
  have hget : items[n]? = some items[n] := List.getElem?_eq_getElem hlt
  obtain ⟨hgo, hy⟩ := it.go Wb.F H2 mF kF n _ hget
  rw [List.drop_eq_getElem_cons hlt] at hl
  refine .inr ⟨hgo, fun σ' H' => ∃ Wb, Sat X.K X.mg Wb H' σ' ∧ RunS X.K X.mg Ex P σ' Wb H' (forLoop g fb (items.drop (n + 1))) D ∧ (∀ a, W1.F a → Wb.F a) ∧ (∀ a o, W1.F a → H1 a = some o → H' a = some o),
    fun σ' H' ⟨Wc, k⟩ => ⟨items.length - (n + 1), by omega, rfl, hlt, Wc, k⟩, fun x H3 y => ?_⟩
  obtain ⟨Wy, Sy, ey, oy, ry, sty, ky, fy⟩ := Sb.yld (hy x H3 y) Wb.F rfl
  cases hgv : g items[n] Wb.ev with
  | none => exact (no_s hl (by show (match g items[n] Wb.ev with | none => _ | some ev1 => _) = _; rw [hgv])).elim
  | some ev1 =>
    refine ⟨Wy, items[n], Sy, ry, ev1, by rw [ey]; exact hgv, fun σ3 W2 a1 a2 a3 a4 al a5 => ⟨W2, a4, ?_⟩⟩
    have stA : Stp (own Wb) Wb.F H2 (own W2) W2.F H3 := by
      have := sty.less (O2 := own W2) a3
      rw [a2]
      exact this
    have pnA : Pin P σ2 σ3 := fun l hl => (a5 l (hp l hl)).1
    have keepB : ∀ {F' : Addr → Prop} {O' : Addr → Prop} {H' : Hp}, Stp (own Wb) Wb.F H2 O' F' H' → (∀ a, W1.F a → F' a) ∧ (∀ a o, W1.F a → H1 a = some o → H' a = some o) := fun st => ⟨fun a y => st.mono a (mF a y), fun a o y e => Sb.keepF st a o (mF a y) (kF a o y e)⟩
    unfold RunS
    have eL : ∀ r, fb ev1 = r → forLoop g fb (items[n] :: items.drop (n + 1)) Wb.ev = (match r with
      | .ok (.nx, ev2) => forLoop g fb (items.drop (n + 1)) ev2
      | .ok (.ct, ev2) => forLoop g fb (items.drop (n + 1)) ev2
      | .ok (.bk, ev2) => .ok (.nx, ev2)
      | .ok (.rt m, ev2) => .ok (.rt m, ev2)
      | .exc c => .exc c
      | .no => .no) := fun r er => by
        show (match g items[n] Wb.ev with | none => _ | some ev1 => _) = _
        rw [hgv]
        show (match fb ev1 with | .ok (.nx, ev2) => _ | .ok (.ct, ev2) => _ | .ok (.bk, ev2) => _ | .ok (.rt m, ev2) => _ | .exc c => _ | .no => _) = _
        rw [er]
    rw [a1]
    cases hf : fb ev1 with
    | no => exact (no_s hl (eL _ hf)).elim
    | exc c =>
      have e5 := eL _ hf
      unfold RunS at hl
      rw [e5] at hl
      intro H' k
      refine hl H' fun x o hx hn => k x o (stA.out x o hx hn) fun z => ?_
      rcases stA.onew x z with w | w
      · exact hn w
      · rw [hx] at w; cases w
    | ok pf =>
      obtain ⟨fl, ev2⟩ := pf
      have e5 := eL _ hf
      intro σ4 W4 H4 v r4 b1 S4 z4 p4 f4 st4
      have stB := stA.trans st4
      cases fl with
      | nx =>
        have en : r4 = [] := f4
        subst en
        have stC := stB.less (O2 := own W4) fun x y => .inl y
        exact ⟨W4, S4, hl.next (g := forLoop g fb (items.drop (n + 1))) (by rw [e5, b1]) stC (pnA.trans p4), keepB stC⟩
      | ct =>
        have en : r4 = [] := f4
        subst en
        have stC := stB.less (O2 := own W4) fun x y => .inl y
        exact ⟨W4, S4, hl.next (g := forLoop g fb (items.drop (n + 1))) (by rw [e5, b1]) stC (pnA.trans p4), keepB stC⟩
      | bk =>
        have en : r4 = [] := f4
        subst en
        exact fun z5 => hl.fin (fl := .nx) (d' := ev2) e5 σ4 W4 H4 .non [] b1 S4 z5 (pnA.trans p4) rfl stB
      | rt m => exact fun z5 => hl.fin (fl := .rt m) (d' := ev2) e5 σ4 W4 H4 v r4 b1 S4 z5 (pnA.trans p4) f4 stB

/-! ### while, with fuel -/
def whLoop (fc : Sm Bool) (fb : Sm Fl) : Nat → Sm Fl
  | 0 => fun _ => .no
  | n + 1 => bd fc fun r => if r = true then (fun ev1 => match fb ev1 with
      | .ok (.nx, ev2) => whLoop fc fb n ev2
      | .ok (.ct, ev2) => whLoop fc fb n ev2
      | .ok (.bk, ev2) => .ok (.nx, ev2)
      | .ok (.rt m, ev2) => .ok (.rt m, ev2)
      | .exc c => .exc c
      | .no => .no) else sret .nx
theorem gs_while {body : List Stmt} {fc : Sm Bool} {fb : Sm Fl} (n : Nat) (ho : PassesOwn (model X.prog X.w) X.A X.env X.xe) (hc : GT X Ex false c fc) (hb : GSs X Ex P body fb) : GS X Ex P (.While c body [] pos) (whLoop fc fb n) := by
  refine ps_weak (ps_while ho hc hb) fun D σ H z ⟨W, S, h⟩ => ?_
  refine ⟨fun m σ' H' => ∃ Wb, Sat X.K X.mg Wb H' σ' ∧ RunS X.K X.mg Ex P σ' Wb H' (whLoop fc fb m) D, ⟨n, W, S, h⟩, ?_⟩
  rintro m σ2 H2 ⟨Wb, Sb, hl⟩
  cases m with
  | zero => exact (no_s hl rfl).elim
  | succ m =>
    refine ⟨Wb, Sb, hl.sub (W1 := Wb) (T := []) rfl (Stp.refl.less fun x y => y.elim id fun y => by cases y) fun d v W1 H1 r1 e1 e3 S1 z1 hr st qt => ?_⟩
    obtain ⟨en, ev⟩ := hr
    subst en ev
    have st1 := st.less (O2 := own W1) fun x y => .inl y
    cases v with
    | false =>
      rw [if_neg Bool.false_ne_true]
      exact fun z2 => hl.fin (fl := .nx) (d' := W1.ev) e3 σ2 W1 H1 .non [] rfl S1 z2 Pin.refl rfl st
    | true =>
      rw [if_pos rfl]
      refine ⟨fun σ' H' => ∃ Wb, Sat X.K X.mg Wb H' σ' ∧ RunS X.K X.mg Ex P σ' Wb H' (whLoop fc fb m) D, fun σ' H' k => ⟨m, Nat.lt_succ_self m, k⟩, W1, S1, ?_⟩
      have eL : ∀ r, fb W1.ev = r → whLoop fc fb (m + 1) Wb.ev = (match r with
        | .ok (.nx, ev2) => whLoop fc fb m ev2
        | .ok (.ct, ev2) => whLoop fc fb m ev2
        | .ok (.bk, ev2) => .ok (.nx, ev2)
        | .ok (.rt m, ev2) => .ok (.rt m, ev2)
        | .exc c => .exc c
        | .no => .no) := fun r er => by
          rw [e3]
          show (match fb W1.ev with | .ok (.nx, ev2) => _ | .ok (.ct, ev2) => _ | .ok (.bk, ev2) => _ | .ok (.rt m, ev2) => _ | .exc c => _ | .no => _) = _
          rw [er]
      unfold RunS
      cases hf : fb W1.ev with
      | no => exact (no_s hl (eL _ hf)).elim
      | exc c =>
        have e5 := eL _ hf
        unfold RunS at hl
        rw [e5] at hl
        intro H' k
        refine hl H' fun x o hx hn => k x o (st1.out x o hx hn) fun z => ?_
        rcases st1.onew x z with w | w
        · exact hn w
        · rw [hx] at w; cases w
      | ok pf =>
        obtain ⟨fl, ev2⟩ := pf
        have e5 := eL _ hf
        intro σ4 W4 H4 v r4 b1 S4 z4 p4 f4 st4
        have stB := st1.trans st4
        cases fl with
        | nx =>
          have en : r4 = [] := f4
          subst en
          exact ⟨W4, S4, hl.next (g := whLoop fc fb m) (by rw [e5, b1]) (stB.less fun x y => .inl y) p4⟩
        | ct =>
          have en : r4 = [] := f4
          subst en
          exact ⟨W4, S4, hl.next (g := whLoop fc fb m) (by rw [e5, b1]) (stB.less fun x y => .inl y) p4⟩
        | bk =>
          have en : r4 = [] := f4
          subst en
          exact fun z5 => hl.fin (fl := .nx) (d' := ev2) e5 σ4 W4 H4 .non [] b1 S4 z5 p4 rfl stB
        | rt mm => exact fun z5 => hl.fin (fl := .rt mm) (d' := ev2) e5 σ4 W4 H4 v r4 b1 S4 z5 p4 f4 stB

/-! ### raise -/
theorem gs_raise {C : Addr} (hc : X.calm = true) (tk : Takes X fun cls d _ H => Ex cls d H) (hm : X.mg x = some (.ref C)) (he : PMk X e fun _ H Q => Q (.ref C) none H) : GS X Ex P (.Raise (some e) none pos) (fun _ => .exc x) := by
  refine ps_weak (ps_raise hc tk he) fun D σ H z ⟨W, S, h⟩ => ?_
  unfold RunS at h
  exact h H (fun _ _ e _ => e) C hm
end
end TW


set_option Elab.async false
set_option linter.all false
set_option maxRecDepth 100000
set_option maxHeartbeats 2000000
namespace TW
open PySem PySem.Spec PyProof.Rows L2

/-! ### lists of an owner: parts -/
section
variable {K : PySem.W.Frag} {mg : Str → Option Value} {F : Addr → Prop} {H : Hp}
theorem RpMs.app : ∀ {ms ns : List M} {vs us : List V} {o p : List Addr}, RpMs K mg F H ms vs o → RpMs K mg F H ns us p → RpMs K mg F H (ms ++ ns) (vs ++ us) (o ++ p)
  | [], _, _, _, _, _, h, h' => by
    obtain ⟨h1, h2⟩ := h
    subst h1 h2
    exact h'
  | m :: ms, _, _, _, _, _, h, h' => by
    obtain ⟨v, r, o1, o2, e, eo, h1, h2⟩ := h
    subst e eo
    exact ⟨v, _, o1, _, rfl, by rw [List.append_assoc], h1, RpMs.app h2 h'⟩
theorem RpMs.split : ∀ {ms : List M} {vs : List V} {o : List Addr} (n : Nat), RpMs K mg F H ms vs o → ∃ o1 o2, o = o1 ++ o2 ∧ RpMs K mg F H (ms.take n) (vs.take n) o1 ∧ RpMs K mg F H (ms.drop n) (vs.drop n) o2
  | ms, vs, o, 0, h => ⟨[], o, rfl, by simp [RpMs], by simpa using h⟩
  | [], _, _, n + 1, h => by
    obtain ⟨h1, h2⟩ := h
    subst h1 h2
    exact ⟨[], [], rfl, by simp [RpMs], by simp [RpMs]⟩
  | m :: ms, _, _, n + 1, h => by
    obtain ⟨v, r, o1, o2, e, eo, h1, h2⟩ := h
    subst e eo
    obtain ⟨p1, p2, e, q1, q2⟩ := RpMs.split n h2
    subst e
    exact ⟨o1 ++ p1, p2, by rw [List.append_assoc], ⟨v, _, o1, p1, rfl, rfl, h1, q1⟩, q2⟩
theorem RpMs.get : ∀ {ms : List M} {vs : List V} {o : List Addr} {j : Nat} {m : M}, RpMs K mg F H ms vs o → ms[j]? = some m → ∃ v o', vs[j]? = some v ∧ RpM K mg F H m v o' ∧ ∀ a ∈ o', a ∈ o
  | [], _, _, _, _, _, e => by simp at e
  | m :: ms, _, _, 0, m', h, e => by
    obtain ⟨v, r, o1, o2, e1, eo, h1, h2⟩ := h
    subst e1 eo
    simp at e
    subst e
    exact ⟨v, o1, rfl, h1, fun a ha => List.mem_append_left _ ha⟩
  | m :: ms, _, _, j + 1, m', h, e => by
    obtain ⟨v, r, o1, o2, e1, eo, h1, h2⟩ := h
    subst e1 eo
    obtain ⟨u, o', q1, q2, q3⟩ := RpMs.get (j := j) h2 (by simpa using e)
    exact ⟨u, o', by simpa using q1, q2, fun a ha => List.mem_append_right _ (q3 a ha)⟩
end

/-! ### semantic writings -/
def sMl (i : Nat) : Sm Unit := fun d => match d[i]? with
  | some (some (.ml _)) => .ok ((), d)
  | _ => .no
/-- the list at slot i becomes another one -/
def sMut (i : Nat) (k : List M → Option (List M)) : Ev → Option Ev := fun ev => match ev[i]? with
  | some (some (.ml ms)) => (match k ms with
    | some ms' => some (ev.set i (some (.ml ms')))
    | none => none)
  | _ => none
def oSm {α : Type} (a : α) : Option Ev → Res (α × Ev)
  | some ev => .ok (a, ev)
  | none => .no
def kApp (m : M) (ms : List M) : Option (List M) := if ms.length < 16777216 then some (ms ++ [m]) else none
def kIns (k : Int) (m : M) (ms : List M) : Option (List M) := if ms.length < 16777216 ∧ 0 ≤ k ∧ k < 4611686018427387904 then some (ms.take k.toNat ++ m :: ms.drop k.toNat) else none
def kSet (k : Int) (m : M) (ms : List M) : Option (List M) := (ixN ms.length k).map fun j => ms.set j m
def sApp (i : Nat) (fe : Sm M) : Sm PyData := bd (sMl i) fun _ => bd fe fun m ev => oSm .none (sMut i (kApp m) ev)
def insK (i : Nat) : PyData → M → Sm PyData
  | .int k, m => fun ev => oSm .none (sMut i (kIns k m) ev)
  | _, _ => sfail
def sIns (i : Nat) (fk : Sm PyData) (fe : Sm M) : Sm PyData := bd (sMl i) fun _ => bd fk fun d => bd fe fun m => insK i d m
def sSetIx (i : Nat) (fe : Sm M) (fk : Sm PyData) : Sm Fl := bd fe fun m => bd (sMl i) fun _ => bd fk fun d ev => match d with
  | .int k => oSm .nx (sMut i (kSet k m) ev)
  | _ => .no
def getI (i : Nat) (k : Int) : Sm Int := fun ev => match ev[i]? with
  | some (some (.ml ms)) => (match atI ms k with
    | some (.fz (.int j)) => .ok (j, ev)
    | _ => .no)
  | _ => .no
def augE (i : Nat) (op : Operator) (k old : Int) : PyData → Sm Fl
  | .int y => (match augI op old y with
    | some z => fun ev => oSm .nx (sMut i (kSet k (.fz (.int z))) ev)
    | none => sfail)
  | _ => sfail
def augK (i : Nat) (op : Operator) (fe : Sm PyData) : PyData → Sm Fl
  | .int k => bd (getI i k) fun old => bd fe fun e => augE i op k old e
  | _ => sfail
def sAugIx (i : Nat) (op : Operator) (fk fe : Sm PyData) : Sm Fl := bd (sMl i) fun _ => bd fk fun d => augK i op fe d
section
variable {K : PySem.W.Frag} {mg : Str → Option Value} {Ex : XK} {q : Bool} {W W2 : Wl} {H H2 : Hp} {σ : L2.St} {i : Nat} {P : List Nat}
theorem sMl_cases (S : Sat K mg W H σ) : (sMl i W.ev = .no) ∨ (sMl i W.ev = .ok ((), W.ev) ∧ ∃ ms a vs o', W.ev[i]? = some (some (.ml ms)) ∧ σ[i]? = some (some (.ref a)) ∧ H a = some (.lst vs) ∧ W.ow i = a :: o' ∧ RpMs K mg W.F H ms vs o') := by
  cases e : W.ev[i]? with
  | none => exact .inl (by unfold sMl; rw [e])
  | some o =>
    cases o with
    | none => exact .inl (by unfold sMl; rw [e])
    | some m =>
      cases m with
      | ml ms =>
        obtain ⟨a, vs, o', h1, h2, h3, h4, _⟩ := S.mlAt e
        exact .inr ⟨by unfold sMl; rw [e], ms, a, vs, o', rfl, h1, h2, h3, h4⟩
      | _ => exact .inl (by unfold sMl; rw [e])
/-- what a writing needs and leaves -/
theorem mut_go {k : List M → Option (List M)} {ev' : Ev} {r : List Addr} {O F0 : Addr → Prop} {H0 : Hp} {a : Addr} (S : Sat K mg W H σ) (hs : σ[i]? = some (some (.ref a))) (e : sMut i k W.ev = some ev') (dr : ∀ b ∈ r, ¬ W.F b ∧ ¬ own W b) (st : Stp O F0 H0 (fun x => own W x ∨ x ∈ r) W.F H) :
    ∃ ms ms' vs o', W.ev[i]? = some (some (.ml ms)) ∧ k ms = some ms' ∧ ev' = W.ev.set i (some (.ml ms')) ∧ H a = some (.lst vs) ∧ RpMs K mg W.F H ms vs o' ∧ (a :: o').Nodup ∧ a ∉ r ∧ (∀ b ∈ o', b ∉ r) ∧
      ∀ vs' o'', RpMs K mg W.F H ms' vs' o'' → o''.Nodup → (∀ b ∈ o'', b ∈ o' ∨ b ∈ r) → ∃ W', W'.ev = ev' ∧ Sat K mg W' (upd H a (.lst vs')) σ ∧ Stp O F0 H0 (own W') W'.F (upd H a (.lst vs')) := by
  unfold sMut at e
  cases e1 : W.ev[i]? with
  | none => rw [e1] at e; cases e
  | some o =>
    rw [e1] at e
    cases o with
    | none => cases e
    | some m =>
      cases m with
      | ml ms =>
        obtain ⟨a', vs, o', h1, h2, h3, h4, h5, h6, h7⟩ := S.mlAt e1
        rw [hs] at h1
        cases h1
        have e' : (match k ms with | some ms' => some (W.ev.set i (some (.ml ms'))) | none => none) = some ev' := e
        cases e2 : k ms with
        | none => rw [e2] at e'; cases e'
        | some ms' =>
          rw [e2] at e'
          cases e'
          have ai : a ∈ W.ow i := by rw [h3]; exact List.mem_cons_self ..
          have nr : a ∉ r := fun y => (dr a y).2 ⟨i, ai⟩
          refine ⟨ms, ms', vs, o', rfl, e2, rfl, h2, h4, h5, nr, fun b hb y => (dr b y).2 ⟨i, by rw [h3]; exact List.mem_cons_of_mem _ hb⟩, fun vs' o'' hm nd sub => ?_⟩
          have na : a ∉ o'' := fun y => by
            rcases sub a y with w | w
            · exact h7 w
            · exact nr w
          refine ⟨⟨W.F, W.ev.set i (some (.ml ms')), updN W.ow i (a :: o'')⟩, rfl, S.mut e1 h3 hs (upd_keep (F := W.F) S ai hm na) (List.nodup_cons.mpr ⟨na, nd⟩) fun b hb => ?_, st.mut h3 fun b hb => ?_⟩
          · rcases sub b hb with w | w
            · exact h6 b w
            · exact ⟨(dr b w).1, fun j hj => absurd ⟨j, hj⟩ (dr b w).2⟩
          · rcases sub b hb with w | w
            · exact .inl (by rw [h3]; exact List.mem_cons_of_mem _ w)
            · exact .inr w
      | _ => cases e
theorem ms_app {F : Addr → Prop} {ms : List M} {vs : List V} {o' r : List Addr} {m : M} {v : V} (h : RpMs K mg F H ms vs o') (hm : RpM K mg F H m v r) (nd : o'.Nodup) (nr : r.Nodup) (dj : ∀ b ∈ o', b ∉ r) :
    RpMs K mg F H (ms ++ [m]) (vs ++ [v]) (o' ++ r) ∧ (o' ++ r).Nodup ∧ ∀ b ∈ o' ++ r, b ∈ o' ∨ b ∈ r :=
  ⟨RpMs.snoc h hm, List.nodup_append.mpr ⟨nd, nr, fun a ha b hb e => dj a ha (e ▸ hb)⟩, fun b hb => List.mem_append.mp hb⟩
theorem ms_ins {F : Addr → Prop} {ms : List M} {vs : List V} {o' r : List Addr} {m : M} {v : V} (n l : Nat) (h : RpMs K mg F H ms vs o') (hm : RpM K mg F H m v r) (nd : o'.Nodup) (nr : r.Nodup) (dj : ∀ b ∈ o', b ∉ r) (hl : n ≤ l) :
    ∃ o'', RpMs K mg F H (ms.take n ++ m :: ms.drop l) (vs.take n ++ v :: vs.drop l) o'' ∧ o''.Nodup ∧ ∀ b ∈ o'', b ∈ o' ∨ b ∈ r := by
  obtain ⟨o1, o2, e, q1, q2⟩ := RpMs.split n h
  subst e
  obtain ⟨o3, o4, e, q3, q4⟩ := RpMs.split (l - n) q2
  subst e
  rw [List.drop_drop, List.drop_drop, show n + (l - n) = l by omega] at q4
  obtain ⟨n1, n2, n3⟩ := List.nodup_append.mp nd
  obtain ⟨n4, n5, n6⟩ := List.nodup_append.mp n2
  refine ⟨o1 ++ (r ++ o4), RpMs.app q1 ⟨v, _, r, o4, rfl, rfl, hm, q4⟩, List.nodup_append.mpr ⟨n1, List.nodup_append.mpr ⟨nr, n5, fun a ha b hb e => ?_⟩, fun a ha b hb e => ?_⟩, fun b hb => ?_⟩
  · subst e
    exact dj a (List.mem_append_right _ (List.mem_append_right _ hb)) ha
  · subst e
    rcases List.mem_append.mp hb with y | y
    · exact dj a (List.mem_append_left _ ha) y
    · exact n3 a ha a (List.mem_append_right _ y) rfl
  · rcases List.mem_append.mp hb with y | y
    · exact .inl (List.mem_append_left _ y)
    · rcases List.mem_append.mp y with w | w
      · exact .inr w
      · exact .inl (List.mem_append_right _ (List.mem_append_right _ w))
end
section
variable {X : Cx} {Ex : XK} {P : List Nat} {e a b c : Expr} {pos p ap : Pos} {i j : Nat} {x : Str} {q : Bool} {fe : Sm M} {fk fd : Sm PyData}
/-- a slot's name -/
structure Nm (X : Cx) (i : Nat) (x : Str) : Prop where
  at_ : X.N[i]? = some x
  vis : Vis X.env.scope x
  hd : (x == ("__debug__" : Str)) = false
  hcd : (x == ("__classdict__" : Str)) = false
def meAppend : Str := "append"
theorem ge_append (n : Nm X i x) (he : GE X Ex false RE e fe) (hs : notStar e = true) (hb : attributeBase (.Name x p) "append" X.env (eval (.Name x p) X.env) = eval (.Name x p) X.env) (hl : (ap.endLine == pos.line) = true)
    (hf : ((backTo pos (starEach [e] X.env)).all (fun x => !x.1) && (backToKw pos (keywordEach [] X.env)).all (fun x => x.1.isSome) && decide ([e].length + ([] : List Keyword).length + (if ([] : List Keyword).isEmpty then 0 else 1) < 30)) = true) :
    GE X Ex false RF (.Call (.Attribute (.Name x p) "append" ap) [e] [] pos) (sApp i fe) := by
  refine pe_weak (pe_bm F.plainAttrs_list F.slot_list_append F.type_list_append mt_append (pe_var n.at_ n.vis n.hd n.hcd) (pa_cons he pa_nil (star_cons hs _ _)) hb hf hl (star_cons hs _ _) (by rfl)) fun σ H Q z ⟨W, S, h⟩ => ?_
  rcases sMl_cases (i := i) S with e1 | ⟨e1, ms, a, vs, o', e2, h1, h2, h3, h4⟩
  · exact (no_of h (by unfold sApp bd; rw [e1])).elim
  refine ⟨_, h1, .inl ⟨rfl, vs, .inl (.inl h2)⟩, W, S, ?_⟩
  refine h.sub (W1 := W) (T := []) (g1 := fun m ev => oSm .none (sMut i (kApp m) ev)) (by show bd (sMl i) _ W.ev = _; unfold bd; rw [e1]) (Stp.refl.less fun x y => y.elim id fun y => by cases y) fun m v W1 H1 r1 e3 S1 z1 hr1 st1 q1 => ?_
  have eF0 : sApp i fe W.ev = bd fe (fun m ev => oSm .none (sMut i (kApp m) ev)) W.ev := by show bd (sMl i) _ W.ev = _; unfold bd; rw [e1]
  have eF : sApp i fe W.ev = oSm .none (sMut i (kApp m) W1.ev) := by rw [eF0]; unfold bd; rw [e3]
  cases e4 : sMut i (kApp m) W1.ev with
  | none => exact (no_of h (by rw [eF, e4]; rfl)).elim
  | some ev' =>
    rw [e4] at eF
    obtain ⟨ms1, ms', vs1, o1, f1, f2, f3, f4, f5, f6, f7, f8, go⟩ := mut_go S1 h1 e4 hr1.2.2 st1
    unfold kApp at f2
    by_cases hlen : ms1.length < 16777216
    · rw [if_pos hlen] at f2
      cases f2
      obtain ⟨g1, g2, g3⟩ := ms_app f5 hr1.1 (List.nodup_cons.mp f6).2 hr1.2.1 f8
      obtain ⟨W', w1, w2, w3⟩ := go _ _ g1 g2 g3
      refine ⟨a, vs1, v, rfl, rfl, f4, by rw [RpMs.len f5, sizeLine_eq]; exact hlen, fun z3 => ?_⟩
      refine h.fin eF .non W' _ [] w1 w2 z3 ⟨rfl, rfl⟩ (w3.less fun x y => y.elim id fun y => by cases y) fun y => by cases y
    · rw [if_neg hlen] at f2
      cases f2
theorem ge_insert (n : Nm X i x) (hk : GE X Ex false RF b fk) (he : GE X Ex false RF e fd) (hs : notStar b = true) (hs2 : notStar e = true) (hb : attributeBase (.Name x p) "insert" X.env (eval (.Name x p) X.env) = eval (.Name x p) X.env) (hl : (ap.endLine == pos.line) = true)
    (hf : ((backTo pos (starEach [b, e] X.env)).all (fun x => !x.1) && (backToKw pos (keywordEach [] X.env)).all (fun x => x.1.isSome) && decide ([b, e].length + ([] : List Keyword).length + (if ([] : List Keyword).isEmpty then 0 else 1) < 30)) = true) :
    GE X Ex false RF (.Call (.Attribute (.Name x p) "insert" ap) [b, e] [] pos) (sIns i fk (bd fd fun d => sret (.fz d))) := by
  refine pe_weak (pe_bm F.plainAttrs_list F.slot_list_insert F.type_list_insert mt_insert (pe_var n.at_ n.vis n.hd n.hcd) (pa_cons hk (pa_cons he pa_nil (star_cons hs2 _ _)) (star_cons hs _ _)) hb hf hl (star_cons hs _ _) (star_plain _ _ _ (by simp [hs2]))) fun σ H Q z ⟨W, S, h⟩ => ?_
  rcases sMl_cases (i := i) S with e1 | ⟨e1, ms, a, vs, o', e2, h1, h2, h3, h4⟩
  · exact (no_of h (by unfold sIns bd; rw [e1])).elim
  refine ⟨_, h1, .inl ⟨rfl, vs, .inl (.inl h2)⟩, ?_⟩
  have h' : tG X Ex false RF (bd fk fun d => bd fd fun u => insK i d (.fz u)) σ H Q := ⟨W, S, by
      have := h.next (f := sMl i) (g := fun _ => bd fk fun d => bd (bd fd fun d => sret (M.fz d)) fun m => insK i d m) (W1 := W) (a := ()) e1 Stp.refl fun y => .refl
      simp only [bd_bd] at this
      exact this⟩
  refine tG.bin (Q' := fun y y2 H' => ∃ (l : Addr) (xs : List V) (i : Int) (y' : V), V.ref a = .ref l ∧ [y, y2] = [.int i, y'] ∧ H' l = some (.lst xs) ∧ xs.length < sizeLine ∧ 0 ≤ i ∧ i < 2 ^ 63 ∧ (SzOk (upd H' l (.lst (xs.take i.toNat ++ [y'] ++ xs.drop i.toNat))) → Q .non (upd H' l (.lst (xs.take i.toNat ++ [y'] ++ xs.drop i.toNat))))) h' RF_nil fun d u y y2 W1 H1 S1 z1 r1 r2 kk => ?_
  cases d with
  | int k =>
    cases (show y = .int k from r1)
    cases e4 : sMut i (kIns k (.fz u)) W1.ev with
    | none => exact (no_of kk (by show oSm PyData.none (sMut i (kIns k (.fz u)) W1.ev) = _; rw [e4] <;> rfl)).elim
    | some ev' =>
      obtain ⟨ms1, ms', vs1, o1, f1, f2, f3, f4, f5, f6, f7, f8, go⟩ := mut_go (r := []) S1 h1 e4 (fun b y => by cases y) (Stp.refl.less fun x y => y.elim id fun y => by cases y)
      unfold kIns at f2
      by_cases hc : ms1.length < 16777216 ∧ 0 ≤ k ∧ k < 4611686018427387904
      · rw [if_pos hc] at f2
        cases f2
        obtain ⟨o'', g1, g2, g3⟩ := ms_ins k.toNat k.toNat f5 (m := .fz u) (v := y2) (r := []) ⟨rfl, r2.2⟩ (List.nodup_cons.mp f6).2 List.nodup_nil f8 (Nat.le_refl _)
        obtain ⟨W', w1, w2, w3⟩ := go _ _ g1 g2 g3
        refine ⟨a, vs1, k, y2, rfl, rfl, f4, by rw [RpMs.len f5, sizeLine_eq]; exact hc.1, hc.2.1, by omega, fun z3 => ?_⟩
        rw [List.append_assoc] at z3 ⊢
        exact kk.fin (a := PyData.none) (d' := ev') (by show oSm PyData.none (sMut i (kIns k (.fz u)) W1.ev) = _; rw [e4] <;> rfl) .non W' _ [] w1 w2 z3 ⟨rfl, rfl⟩ (w3.less fun x y => y.elim id fun y => by cases y) fun y => by cases y
      · rw [if_neg hc] at f2
        cases f2
  | _ => exact (no_of kk rfl).elim
/-- name[k] = e -/
theorem set_take {α : Type} {l : List α} {j : Nat} {a : α} (h : j < l.length) : l.set j a = l.take j ++ a :: l.drop (j + 1) := by
  rw [List.set_eq_take_append_cons_drop, if_pos h]
theorem ixN_lt {n : Nat} {k : Int} {j : Nat} (h : ixN n k = some j) : j < n := (ixN_seq h).2.1
theorem gs_setIx {kp : Pos} (n : Nm X i x) (he : GE X Ex false RE e fe) (hk : GE X Ex false RF b fk) (hs : swapsWithSole [.Subscript (.Name x p) b kp] e pos.line X.env = pure false) (hw : swappedStores [.Subscript (.Name x p) b kp] e X.env = pure none)
    (h1' : (assignEach [.Subscript (.Name x p) b kp] X.env).map (·.2) = [assign (.Subscript (.Name x p) b kp) X.env])
    (ha : ∀ v, assign (.Subscript (.Name x p) b kp) X.env v = (do
      let ov ← holding [v] (eval (.Name x p) X.env)
      let iv ← holding [v, ov] (eval b X.env)
      standAt kp
      holding [v, ov, iv] (setItem ov iv v)
      release [v, ov, iv] [])) : GS X Ex P (.Assign [.Subscript (.Name x p) b kp] e pos) (sSetIx i fe fk) := by
  refine ps_weak (ps_asg he (pg_sub (pe_var n.at_ n.vis n.hd n.hcd) hk set_list ha) hs hw h1') fun D σ H z ⟨W, S, h⟩ => ⟨W, S, ?_⟩
  refine h.sub (W1 := W) (T := []) rfl (Stp.refl.less fun x y => y.elim id fun y => by cases y) fun m v W1 H1 r1 e1 e3 S1 z1 hr1 st1 q1 => ?_
  rcases sMl_cases (i := i) S1 with e4 | ⟨e4, ms, a, vs, o', e2, h1, h2, h3, h4⟩
  · exact (no_s h (by rw [e3]; show bd (sMl i) _ W1.ev = _; unfold bd; rw [e4])).elim
  refine ⟨_, h1, W1, S1, ?_⟩
  have eF : sSetIx i fe fk W.ev = bd fk (fun d ev => match d with
    | .int k => oSm .nx (sMut i (kSet k m) ev)
    | _ => .no) W1.ev := by rw [e3]; show bd (sMl i) _ W1.ev = _; unfold bd; rw [e4]
  refine h.sub (W1 := W1) (T := r1) eF st1 fun d y W2 H2 r2 e5 e6 S2 z2 hr2 st2 q2 => ?_
  obtain ⟨en, r3⟩ := hr2
  subst en
  have st2' := st2.less (O2 := own W2) fun x y => .inl y
  cases d with
  | int k =>
    cases (show y = .int k from r3)
    have e6' : sSetIx i fe fk W.ev = oSm .nx (sMut i (kSet k m) W2.ev) := e6
    cases e7 : sMut i (kSet k m) W2.ev with
    | none => exact (no_s h (by rw [e6', e7]; rfl)).elim
    | some ev' =>
      rw [e7] at e6'
      have th := RpM.there m hr1.1
      have pr : ∀ b ∈ r1, ¬ W2.F b ∧ ¬ own W2 b := fun b hb => pend st2' (th b hb) (hr1.2.2 b hb).1 (hr1.2.2 b hb).2
      have rm2 := S1.rpM st2' hr1.1 fun b hb => (hr1.2.2 b hb).2
      have stT := st1.trans (st2'.frame (T := fun x => x ∈ r1))
      obtain ⟨ms1, ms', vs1, o1, f1, f2, f3, f4, f5, f6, f7, f8, go⟩ := mut_go S2 h1 e7 pr stT
      unfold kSet at f2
      obtain ⟨jj, j1, j2⟩ := Option.map_eq_some_iff.mp f2
      subst j2
      have hj := ixN_lt j1
      obtain ⟨o'', g1, g2, g3⟩ := ms_ins jj (jj + 1) f5 rm2 (List.nodup_cons.mp f6).2 hr1.2.1 f8 (Nat.le_succ _)
      have hl := RpMs.len f5
      rw [← set_take hj, ← set_take (by rw [hl]; exact hj)] at g1
      obtain ⟨W', w1, w2, w3⟩ := go _ _ g1 g2 g3
      refine ⟨a, vs1, k, jj, rfl, rfl, f4, by rw [hl]; exact j1, fun z3 => ?_⟩
      exact h.fin (fl := .nx) e6' σ W' _ .non [] w1 w2 z3 Pin.refl rfl (w3.less fun x y => y.elim id fun y => by cases y)
  | _ => exact (no_s h e6).elim
theorem getI_ok {K : PySem.W.Frag} {mg : Str → Option Value} {W : Wl} {H : Hp} {σ : L2.St} {k : Int} {a : Addr} (S : Sat K mg W H σ) (hs : σ[i]? = some (some (.ref a))) : getI i k W.ev = .no ∨ ∃ (old : Int) (vs : List V), getI i k W.ev = .ok (old, W.ev) ∧ H a = some (.lst vs) ∧ atI vs k = some (.int old) := by
  cases e : W.ev[i]? with
  | none => exact .inl (by unfold getI; rw [e])
  | some o =>
    cases o with
    | none => exact .inl (by unfold getI; rw [e])
    | some m =>
      cases m with
      | ml ms =>
        obtain ⟨a', vs, o', h1, h2, h3, h4, _⟩ := S.mlAt e
        rw [hs] at h1
        cases h1
        have e0 : getI i k W.ev = (match atI ms k with
          | some (.fz (.int j)) => .ok (j, W.ev)
          | _ => .no) := by unfold getI; rw [e]
        cases e1 : atI ms k with
        | none => exact .inl (by rw [e0, e1])
        | some m =>
          rw [e1] at e0
          unfold atI at e1
          obtain ⟨j, j1, j2⟩ := Option.bind_eq_some_iff.mp e1
          obtain ⟨v, o2, g1, g2, _⟩ := RpMs.get h4 j2
          cases m with
          | fz d =>
            cases d with
            | int old =>
              refine .inr ⟨old, vs, e0, h2, ?_⟩
              unfold atI
              rw [RpMs.len h4, j1]
              cases (show v = .int old from g2.2)
              exact g1
            | _ => exact .inl e0
          | _ => exact .inl e0
      | _ => exact .inl (by unfold getI; rw [e])
/-- o[i] of a list, by values -/
theorem get_list : PGet X (rIxL X.K) := by
  intro pins s σ H x y v u Q I rx ry h
  obtain ⟨p, xs, i, z, rfl, rfl, hq, he, q⟩ := h
  cases rx
  obtain ⟨t, rfl⟩ := ry
  obtain ⟨its, r, pl, hz⟩ := I.list hq
  obtain ⟨j, h1, h2, h3, h4, h5⟩ := atI_get he
  obtain ⟨w, ew, rw'⟩ := r.get h2
  have hl := r.length
  have hn := line63
  have fin : EP X pins σ Q w s := ⟨z, H, I, rw', q⟩
  by_cases h0 : 0 ≤ i
  · have hj : i.toNat = j := by
      rw [seqIndex_of h0 h5] at h1
      exact Option.some.inj h1
    exact wpAny_getItem_list pl.isList h0 (by omega) (by rw [hj]; simpa using ew) fin
  · have hj : (i + (its.toArray.size : Int)).toNat = j := by
      rw [seqIndex_neg (by omega) h4] at h1
      rw [List.size_toArray, ← hl]
      exact Option.some.inj h1
    exact wpAny_getItem_list_neg pl.isList (by omega) (by rw [List.size_toArray] <;> omega) (by omega) (by rw [hj]; simpa using ew) fin
theorem gs_augIx {kp : Pos} {op : Operator} {fe : Sm PyData} (n : Nm X i x) (hk : GE X Ex false RF b fk) (he : GE X Ex false RF e fe)
    (ha : ∀ ov iv new, augStore b ov iv new = (do holding [new, ov, iv] (setItem ov iv new); release [new, ov, iv] []; pure .next)) : GS X Ex P (.AugAssign (.Subscript (.Name x p) b kp) op e pos) (sAugIx i op fk fe) := by
  refine ps_weak (ps_augS (pe_var n.at_ n.vis n.hd n.hcd) hk get_list he (ip_aug op) set_list ha) fun D σ H z ⟨W, S, h⟩ => ?_
  rcases sMl_cases (i := i) S with e4 | ⟨e4, ms, a, vs, o', e2, h1, h2, h3, h4⟩
  · exact (no_s h (by show bd (sMl i) _ W.ev = _; unfold bd; rw [e4])).elim
  refine ⟨_, h1, W, S, ?_⟩
  have eF : sAugIx i op fk fe W.ev = bd fk (fun d => augK i op fe d) W.ev := by show bd (sMl i) _ W.ev = _; unfold bd; rw [e4]
  refine h.sub (W1 := W) (T := []) eF (Stp.refl.less fun x y => y.elim id fun y => by cases y) fun d y W1 H1 r1 e5 e6 S1 z1 hr1 st1 q1 => ?_
  obtain ⟨en, r3⟩ := hr1
  subst en
  cases d with
  | int k =>
    cases (show y = .int k from r3)
    rcases getI_ok (k := k) S1 h1 with e7 | ⟨old, vs1, e7, g1, g2⟩
    · exact (no_s h (by rw [e6]; show bd (getI i k) _ W1.ev = _; unfold bd; rw [e7])).elim
    have e8 : sAugIx i op fk fe W.ev = bd fe (fun e => augE i op k old e) W1.ev := by rw [e6]; show bd (getI i k) _ W1.ev = _; unfold bd; rw [e7]
    refine ⟨a, vs1, k, .int old, rfl, rfl, .inl (.inl g1), g2, W1, S1, ?_⟩
    refine h.sub (W1 := W1) (T := []) e8 st1 fun u y W2 H2 r2 e9 e10 S2 z2 hr2 st2 q2 => ?_
    obtain ⟨en, r4⟩ := hr2
    subst en
    have stT := (st1.less (O2 := own W1) fun x y => .inl y).trans st2
    cases u with
    | int w =>
      cases (show y = .int w from r4)
      cases ez : augI op old w with
      | none => exact (no_s h (by rw [e10]; unfold augE; simp only [ez]; rfl)).elim
      | some zz =>
        have e11 : sAugIx i op fk fe W.ev = oSm .nx (sMut i (kSet k (.fz (.int zz))) W2.ev) := by rw [e10]; unfold augE; simp only [ez]
        cases e12 : sMut i (kSet k (.fz (.int zz))) W2.ev with
        | none => exact (no_s h (by rw [e11, e12]; rfl)).elim
        | some ev' =>
          rw [e12] at e11
          obtain ⟨ms1, ms', vs2, o1, f1, f2, f3, f4, f5, f6, f7, f8, go⟩ := mut_go (r := []) S2 h1 e12 (fun b y => by cases y) stT
          unfold kSet at f2
          obtain ⟨jj, j1, j2⟩ := Option.map_eq_some_iff.mp f2
          subst j2
          have hj := ixN_lt j1
          obtain ⟨o'', g1, g2, g3⟩ := ms_ins jj (jj + 1) f5 (m := .fz (.int zz)) (v := .int zz) (r := []) ⟨rfl, rfl⟩ (List.nodup_cons.mp f6).2 List.nodup_nil f8 (Nat.le_succ _)
          have hl := RpMs.len f5
          rw [← set_take hj, ← set_take (by rw [hl]; exact hj)] at g1
          obtain ⟨W', w1, w2, w3⟩ := go _ _ g1 g2 g3
          refine ⟨old, w, zz, rfl, rfl, ez, a, vs2, k, jj, rfl, rfl, f4, by rw [hl]; exact j1, fun z3 => ?_⟩
          exact h.fin (fl := .nx) e11 σ W' _ .non [] w1 w2 z3 Pin.refl rfl (w3.less fun x y => y.elim id fun y => by cases y)
    | _ => exact (no_s h e10).elim
  | _ => exact (no_s h e6).elim
end
end TW


set_option Elab.async false
set_option linter.all false
set_option maxRecDepth 100000
set_option maxHeartbeats 2000000
namespace TW
open PySem PySem.Spec PyProof.Rows L2

/-! ### defs: what they compute -/
abbrev FS := List M → Res (M × List (Option M))
def outsOf (n : Nat) (pin : List Nat) (ev : Ev) : List (Option M) := (List.range n).map fun j => if j ∈ pin then (ev[j]?).getD none else none
def fnRun (N n : Nat) (pin : List Nat) (body : Sm Fl) : FS := fun ms =>
  match body (ms.map some ++ List.replicate (N - n) none) with
  | .ok (.rt m, ev) => .ok (m, outsOf n pin ev)
  | .ok (.nx, ev) => .ok (.fz .none, outsOf n pin ev)
  | .ok _ => .no
  | .exc c => .exc c
  | .no => .no
def spOf (K : PySem.W.Frag) (mg : Str → Option Value) (n : Nat) (F : FS) : Sp := fun vs H Q E => vs.length = n ∧ ∃ (W : Wl) (ms : List M), W.ev = ms.map some ∧ Sat K mg W H (vs.map some) ∧
  match F ms with
  | .ok (m, outs) => ∀ v H' W' r, W'.ev = outs → Sat K mg W' H' (vs.map some) → SzOk H' → RE K mg W' H' m v r → Stp (own W) W.F H (fun x => own W' x ∨ x ∈ r) W'.F H' → Q v H'
  | .exc c => ∀ H', (∀ a o, H a = some o → ¬ own W a → H' a = some o) → Ew mg E c H'
  | .no => False
/-! ### what a def promises where nothing is being shown (the kit's FnOk, with the guards told) -/
structure FnOkG (P : Program) (w : World) (K : PySem.W.Frag) (mg : Str → Option Value) (base : Heap) (CX : CXT) (k : Nat) (f : Addr) (fd : FuncData) (ps : List Str) (sp : Sp) : Prop where
  len : ∀ vs H Q E, sp vs H Q E → vs.length = ps.length
  run : ∀ (A : Around) (outer : List Env) (s : Shared) (H : Hp) (args : Args) (us : List Value) (vs : List V) (Q : VK) (E : XK), Room k A → A.guards = some [] → Env0 P w K mg base A outer s H → BindsTo s fd args (ps.zip us) → Vals vs us → sp vs H Q E →
    codeAny (model P w) A (.call (.ref f) args) (CR CX outer P w H s Q E) s
theorem FnOkG.mono {P : Program} {w : World} {K : PySem.W.Frag} {mg : Str → Option Value} {base : Heap} {CX : CXT} {j k : Nat} {f : Addr} {fd : FuncData} {ps : List Str} {sp : Sp} (F : FnOkG P w K mg base CX j f fd ps sp) (h : j ≤ k) :
    FnOkG P w K mg base CX k f fd ps sp := ⟨F.len, fun A outer s H args us vs Q E hr => F.run A outer s H args us vs Q E (hr.mono h)⟩
theorem fn_ofG {CX : CXT} {P : Program} {w : World} {K : PySem.W.Frag} {mg : Str → Option Value} {base : Heap} {k : Nat} {f : Addr} {name qual : Str} {params : Arguments} {body : List Stmt} {scope : Scope} {dV kV doc pm cdv ct oc : Value} {an od : Option Addr}
    {osl : Array (Option Value)} {N ps : List Str} {sp : Sp} (lk : K.lookup f = some ⟨oc, od, .func (PySem.W.fnOf name qual params body scope dV kV doc pm an cdv ct), osl⟩) (hcd : PySem.W.codeIn K cdv qual = true) (S : FnScope N ps scope)
    (len : ∀ vs H Q E, sp vs H Q E → vs.length = ps.length)
    (hbody : ∀ (A : Around) (outer : List Env) (s : Shared) (H : Hp) (vs : List V) (Q : VK) (E : XK), Room k (A.deeper (envOfC qual scope s.heap.objs.size f cdv)) → A.guards = some [] → sp vs H Q E →
      ∃ t, PSs (cxOf CX P w K mg base N qual scope f cdv A outer s H E) body t ∧ t { nx := fun _ H' => Q .non H', rt := Q } (L2.start N vs) H) :
    FnOkG P w K mg base CX (k + 1) f (PySem.W.fnOf name qual params body scope dV kV doc pm an cdv ct) ps sp := by
  refine ⟨len, fun A outer s H args us vs Q E hr hgd e0 hb r hsp => ?_⟩
  have hl := len _ _ _ _ hsp
  have KX : K.In s.heap := e0.mod.kin.keeps fun b o e => (e0.bs b o e).1
  have lim : s.heap.NoLimit := e0.mod.nolimit.keeps fun b o e => (e0.bs b o e).1
  have hkind : ∀ y ∈ ps.zip us, scope.names.lookup y.1 = some .local ∨ (scope.names.lookup y.1 = some .cell ∧ ((cellsFrom (s.heap.objs.size + 1) scope.names []).lookup y.1).isSome = true) := fun ⟨n, v⟩ hy => by
    rcases S.par n (List.of_mem_zip hy).1 with q | q
    · exact .inl q
    · exact .inr ⟨q, PySem.W.cellsFrom_some _ _ _ (.inl q)⟩
  refine codeAny_call_function hr.depth (KX _ _ lk) rfl S.co S.gen rfl (PySem.W.codeRec_of KX hcd) (hb _ _ _ _ ?_)
  refine wpAny_newFunctionEnv_cells S.kind hkind fun env he s1 x => ?_
  subst he
  refine ⟨lim.keeps x.toInCall.keep, codeAny_func ?_⟩
  obtain ⟨t, ht, hq⟩ := hbody A outer s H vs Q E (hr.deeper _) hgd hsp
  have I : Inv (cxOf CX P w K mg base N qual scope f cdv A outer s H E) [] (L2.start N vs) H s1 := inv_start S hr.hd e0 hl r x
  refine wpAny_mono (ht.run [] s1 (L2.start N vs) H _ I hq) (fun fl s' hs => ?_) fun e s' hs => hs
  have fin : ∀ {σ' : L2.St} {H' : Hp} {v : V} {u : Value}, Inv (cxOf CX P w K mg base N qual scope f cdv A outer s H E) [] σ' H' s' → RelV v u → Q v H' → CE outer P w H s Q u s' :=
    fun {σ' H' v u} J rv q => ⟨v, H', J.os, J.bare, J.base, J.hok, rv, q⟩
  cases fl with
  | ret u =>
    obtain ⟨v, σ', H', J, rv, q⟩ := hs
    exact fin J rv q
  | next =>
    obtain ⟨σ', H', J, q⟩ := hs
    exact fin (v := V.non) (u := Value.none) J rfl q
  | brk =>
    obtain ⟨_, _, _, q⟩ := hs
    exact False.elim q
  | cont =>
    obtain ⟨_, _, _, q⟩ := hs
    exact False.elim q
section
variable {X : Cx} {CX : CXT} {k : Nat} {f : Addr} {fd : FuncData} {ps : List Str} {sp : Sp} {E : XK} {x : Str} {p pos : Pos} {e : Expr} {es : List Expr} {t : TA}
theorem run_fnG {pins : List (Addr × Obj)} {σ : L2.St} {H : Hp} {s : Shared} {Q : VK} {us : List Value} {vs : List V} (F : FnOkG X.prog X.w X.K X.mg X.base CX k f fd ps sp) (hr : Room k X.A) (hgd : X.A.guards = some []) (hb : Binds X.K fd ps []) (hx : Passes CX X E)
    (I : Inv X pins σ H s) (r : Vals vs us) (h : sp vs H Q E) : wpAny (model X.prog X.w) X.A (call (.ref f) us) (EP X pins σ Q) X.xe s := by
  have hl : (us ++ []).length = ps.length := by rw [List.append_nil, ← r.length]; exact F.len _ _ _ _ h
  have hb' := hb s us I.kIn hl
  rw [List.append_nil] at hb'
  refine wpAny_call (codeAny_mono (F.run X.A X.stack s H ⟨us, []⟩ us vs Q E hr hgd I.env0 hb' r h) fun r s' hq => ?_)
  cases r with
  | error e => exact hx pins σ H s e s' I hq
  | ok fl =>
    cases fl with
    | ret u => exact I.after hq
    | next => exact False.elim hq
    | brk => exact False.elim hq
    | cont => exact False.elim hq
theorem pe_callG (F : FnOkG X.prog X.w X.K X.mg X.base CX k f fd ps sp) (hr : Room k X.A) (hgd : X.A.guards = some []) (hg : Gl X x) (hm : X.mg x = some (.ref f)) (hk : PySem.W.keepIn X.K (.ref f) = true) (hb : Binds X.K fd ps []) (hx : Passes CX X E)
    (ha : PA X (e :: es) t) (hdb : (x == ("__debug__" : Str)) = false) (he : starEach (e :: es) X.env = (false, eval e X.env) :: starEach es X.env) (hpl : (backTo pos (starEach es X.env)).any (·.1) = false) :
    PE X (.Call (.Name x p) (e :: es) [] pos) (fun σ H Q => t σ H fun vs H1 => sp vs H1 Q E) := by
  refine ⟨fun pins s σ H Q I h => ?_⟩
  refine wpAny_Call_Name_kw (ld_glob I hg hm ?_ hdb)
  refine PySem.W.callWith_K (h₀ := X.base) I.ok.mod.kin hk (thn (ha.run pos pins s σ H _ I h) fun us s1 ⟨vs, H1, I1, r, q⟩ => ⟨I1.kIn, ?_⟩) he hpl
  exact run_fnG F hr hgd hb hx I1 r q
end
structure FnD (P : Program) (w : World) (K : PySem.W.Frag) (mg : Str → Option Value) (base : Heap) (CX : CXT) (k : Nat) (x : Str) (n : Nat) (F : FS) : Prop where
  ex : ∃ f fd ps, FnOkG P w K mg base CX k f fd ps (spOf K mg n F) ∧ mg x = some (.ref f) ∧ PySem.W.keepIn K (.ref f) = true ∧ Binds K fd ps []
theorem FnD.mono {P : Program} {w : World} {K : PySem.W.Frag} {mg : Str → Option Value} {base : Heap} {CX : CXT} {j k : Nat} {x : Str} {n : Nat} {F : FS} (h : FnD P w K mg base CX j x n F) (hk : j ≤ k) : FnD P w K mg base CX k x n F := by
  obtain ⟨f, fd, ps, h1, h2⟩ := h.ex
  exact ⟨f, fd, ps, h1.mono hk, h2⟩
/-! the entry, the end -/
section
variable {K : PySem.W.Frag} {mg : Str → Option Value} {W W' : Wl} {H H' : Hp} {σ : L2.St} {vs : List V} {ms : List M}
theorem start_get {N : List Str} {vs : List V} {j : Nat} (h : j < vs.length) : (L2.start N vs)[j]? = (vs.map some)[j]? := by
  unfold L2.start
  rw [List.getElem?_append_left (by simpa using h)]
theorem Sat.start {N : List Str} (S : Sat K mg W H (vs.map some)) (e : W.ev = ms.map some) (hl : vs.length ≤ N.length) : Sat K mg ⟨W.F, ms.map some ++ List.replicate (N.length - vs.length) none, W.ow⟩ H (L2.start N vs) := by
  have l := S.len
  rw [e, List.length_map, List.length_map] at l
  refine ⟨?_, fun i m hi => ?_, fun i hi => ?_, S.nd, S.dj, S.nf, S.ft⟩
  · show (L2.start N vs).length = (ms.map some ++ List.replicate (N.length - vs.length) none).length
    unfold L2.start
    simp [l]
  · have hi' : (ms.map some ++ List.replicate (N.length - vs.length) none)[i]? = some (some m) := hi
    have hlt : i < ms.length := by
      by_cases h : i < ms.length
      · exact h
      · rw [List.getElem?_append_right (by simpa using h), List.getElem?_replicate] at hi'
        split at hi' <;> cases hi'
    rw [List.getElem?_append_left (by simpa using hlt)] at hi'
    obtain ⟨v, h1, h2⟩ := S.slot i m (by rw [e]; exact hi')
    exact ⟨v, by rw [start_get (by omega)]; exact h1, h2⟩
  · refine S.nil i fun m hm => hi m ?_
    rw [e] at hm
    have hlt : i < (ms.map some).length := (List.getElem?_eq_some_iff.mp hm).1
    show (ms.map some ++ _)[i]? = _
    rw [List.getElem?_append_left hlt]
    exact hm
theorem outs_get {n : Nat} {pin : List Nat} {ev : Ev} {j : Nat} {m : M} (h : (outsOf n pin ev)[j]? = some (some m)) : j < n ∧ j ∈ pin ∧ ev[j]? = some (some m) := by
  unfold outsOf at h
  rw [List.getElem?_map] at h
  obtain ⟨l, h1, h2⟩ := Option.map_eq_some_iff.mp h
  obtain ⟨hlt, e⟩ := List.getElem?_eq_some_iff.mp h1
  rw [List.length_range] at hlt
  rw [List.getElem_range] at e
  subst e
  by_cases hp : j ∈ pin
  · rw [if_pos hp] at h2
    refine ⟨hlt, hp, ?_⟩
    cases q : ev[j]? with
    | none => rw [q] at h2; cases h2
    | some o => rw [q] at h2; rw [show o = some m from h2]
  · rw [if_neg hp] at h2
    cases h2
def owPin (n : Nat) (pin : List Nat) (W : Wl) : Nat → List Addr := fun j => if j < n ∧ j ∈ pin then W.ow j else []
theorem Sat.outs {n : Nat} {pin : List Nat} (S : Sat K mg W H σ) (hl : vs.length = n) (hp : ∀ j ∈ pin, j < n → σ[j]? = (vs.map some)[j]?) : Sat K mg ⟨W.F, outsOf n pin W.ev, owPin n pin W⟩ H (vs.map some) := by
  have sub : ∀ j a, a ∈ owPin n pin W j → a ∈ W.ow j ∧ j < n ∧ j ∈ pin := fun j a h => by
    unfold owPin at h
    by_cases c : j < n ∧ j ∈ pin
    · rw [if_pos c] at h
      exact ⟨h, c⟩
    · rw [if_neg c] at h
      cases h
  refine ⟨by simp [outsOf, hl], fun i m hi => ?_, fun i hi => ?_, fun i => ?_, fun i j a h1 h2 => S.dj i j a (sub i a h1).1 (sub j a h2).1, fun i a h => S.nf i a (sub i a h).1, S.ft⟩
  · obtain ⟨h1, h2, h3⟩ := outs_get hi
    obtain ⟨v, q1, q2⟩ := S.slot i m h3
    refine ⟨v, by rw [← hp i h2 h1]; exact q1, ?_⟩
    show RpM K mg W.F H m v (owPin n pin W i)
    unfold owPin
    rw [if_pos ⟨h1, h2⟩]
    exact q2
  · show owPin n pin W i = []
    unfold owPin
    by_cases c : i < n ∧ i ∈ pin
    · rw [if_pos c]
      refine S.nil i fun m hm => hi m ?_
      show (outsOf n pin W.ev)[i]? = _
      unfold outsOf
      rw [List.getElem?_map, List.getElem?_range c.1]
      show some (if i ∈ pin then (W.ev[i]?).getD none else none) = _
      rw [if_pos c.2, hm] <;> rfl
    · rw [if_neg c]
  · show (owPin n pin W i).Nodup
    unfold owPin
    split
    · exact S.nd i
    · exact List.nodup_nil
theorem own_outs {n : Nat} {pin : List Nat} {a : Addr} (h : own ⟨W.F, outsOf n pin W.ev, owPin n pin W⟩ a) : own W a := by
  obtain ⟨j, h⟩ := h
  have h' : a ∈ owPin n pin W j := h
  unfold owPin at h'
  by_cases c : j < n ∧ j ∈ pin
  · rw [if_pos c] at h'
    exact ⟨j, h'⟩
  · rw [if_neg c] at h'
    cases h'
end
/-- THE RULE for a def -/
theorem fnD_of {P : Program} {w : World} {K : PySem.W.Frag} {mg : Str → Option Value} {base : Heap} {CX : CXT} {k n : Nat} {x qual : Str} {params : Arguments} {body : List Stmt} {scope : Scope} {f : Addr} {fd : FuncData} {N ps : List Str} {pin : List Nat} {fb : Sm Fl}
    (F : FunD K x qual params body scope [] [] f fd) (S : FnScope N ps scope) (hn : ps.length = n) (hm : mg x = some (.ref f)) (hb : Binds K fd ps []) (hlen : n ≤ N.length)
    (h : ∀ (cdv : Value) (A : Around) (outer : List Env) (s : Shared) (H : Hp) (E : XK), Room k (A.deeper (envOfC qual scope s.heap.objs.size f cdv)) → A.guards = some [] → GSs (cxOf CX P w K mg base N qual scope f cdv A outer s H E) E pin body fb) :
    FnD P w K mg base CX (k + 1) x n (fnRun N.length n pin fb) := by
  obtain ⟨oc, od, dV, kV, doc, pm, an, cdv, ct, osl, rfl, lk, hcd, _, _⟩ := F.ex
  refine ⟨f, _, ps, fn_ofG lk hcd S (fun vs H Q E q => by rw [hn]; exact q.1) (fun A outer s H vs Q E hr hgd q => ?_), hm, F.kp, hb⟩
  obtain ⟨hl, W, ms, e, S0, q⟩ := q
  refine ⟨_, h cdv A outer s H E hr hgd, ⟨W.F, ms.map some ++ List.replicate (N.length - vs.length) none, W.ow⟩, S0.start e (by omega), ?_⟩
  have hown : ∀ a, own ⟨W.F, ms.map some ++ List.replicate (N.length - vs.length) none, W.ow⟩ a → own W a := fun a y => y
  unfold RunS
  unfold fnRun at q
  rw [← hl] at q
  show match fb (ms.map some ++ List.replicate (N.length - vs.length) none) with
    | .ok (fl, d') => _
    | .exc c => _
    | .no => False
  have fin : ∀ {ev : Ev} {m : M} {σ' : L2.St} {W' : Wl} {H' : Hp} {v : V} {r : List Addr},
      (∀ v H' W' r, W'.ev = outsOf vs.length pin ev → Sat K mg W' H' (vs.map some) → SzOk H' → RE K mg W' H' m v r → Stp (own W) W.F H (fun x => own W' x ∨ x ∈ r) W'.F H' → Q v H') → W'.ev = ev → Sat K mg W' H' σ' → SzOk H' → Pin pin (L2.start N vs) σ' → RE K mg W' H' m v r →
      Stp (own W) W.F H (fun x => own W' x ∨ x ∈ r) W'.F H' → Q v H' := fun {ev m σ' W' H' v r} q a1 a2 a3 a4 a5 a6 => by
    refine q v H' ⟨W'.F, outsOf vs.length pin W'.ev, owPin vs.length pin W'⟩ r (by rw [a1]) (a2.outs rfl fun j hj hlt => by rw [a4 j hj, start_get hlt]) a3 ⟨a5.1, a5.2.1, fun a ha => ⟨(a5.2.2 a ha).1, fun y => (a5.2.2 a ha).2 (own_outs y)⟩⟩ (a6.less fun x y => ?_)
    rcases y with y | y
    · exact .inl (own_outs y)
    · exact .inr y
  split
  · rename_i fl d' e2
    rw [e2] at q
    intro σ' W' H' v r a1 a2 a3 a4 a5 a6
    cases fl with
    | rt m => exact fin q a1 a2 a3 a4 a5 a6
    | nx =>
      have en : r = [] := a5
      subst en
      exact fin (m := .fz .none) (v := .non) (r := []) q a1 a2 a3 a4 ⟨⟨rfl, rfl⟩, List.nodup_nil, fun a y => by cases y⟩ a6
    | bk => exact q.elim
    | ct => exact q.elim
  · rename_i c e2
    rw [e2] at q
    exact q
  · rename_i e2
    rw [e2] at q
    exact q.elim

/-! ### arguments -/
inductive AR where
  | val (m : M)
  | sl (i : Nat)
def RArg (K : PySem.W.Frag) (mg : Str → Option Value) (F : Addr → Prop) (H : Hp) (σ : L2.St) : AR → V → Prop
  | .val m, v => RpM K mg F H m v []
  | .sl i, v => σ[i]? = some (some v)
def RArgs (K : PySem.W.Frag) (mg : Str → Option Value) (F : Addr → Prop) (H : Hp) (σ : L2.St) : List AR → List V → Prop
  | [], vs => vs = []
  | a :: as, vs => ∃ v r, vs = v :: r ∧ RArg K mg F H σ a v ∧ RArgs K mg F H σ as r
def RAR (σ : L2.St) (n : Nat) : RR (List AR) (List V) := fun K mg W H as vs r => r = [] ∧ as.length = n ∧ RArgs K mg W.F H σ as vs
def GAr (X : Cx) (Ex : XK) (q : Bool) (n : Nat) (es : List Expr) (f : Sm (List AR)) : Prop := PA X es (fun σ H Q => tG X Ex q (RAR σ n) f σ H Q)
def slotsOf : List AR → List Nat
  | [] => []
  | .sl i :: as => i :: slotsOf as
  | .val _ :: as => slotsOf as
def resA (ev : Ev) : List AR → Option (List M)
  | [] => some []
  | .val m :: as => (resA ev as).map (m :: ·)
  | .sl i :: as => match ev[i]? with
    | some (some m) => (resA ev as).map (m :: ·)
    | _ => none
def putA : Ev → List AR → List (Option M) → Ev
  | ev, .sl i :: as, o :: os => putA (ev.set i o) as os
  | ev, .val _ :: as, _ :: os => putA ev as os
  | ev, _, _ => ev
def putO (ow : Nat → List Addr) (f : Nat → List Addr) : List AR → Nat → Nat → List Addr
  | [], _ => ow
  | .sl i :: as, j => updN (putO ow f as (j + 1)) i (f j)
  | .val _ :: as, j => putO ow f as (j + 1)
def callK (F : FS) (as : List AR) : Sm M := fun ev => if (slotsOf as).Nodup then (match resA ev as with
  | some ms => (match F ms with
    | .ok (m, outs) => if outs.length = as.length then .ok (m, putA ev as outs) else .no
    | .exc c => .exc c
    | .no => .no)
  | none => .no) else .no
def sCall (F : FS) (fs : Sm (List AR)) : Sm M := bd fs (callK F)
/-- a name as an argument -/
def vA (i : Nat) : Sm AR := fun d => match d[i]? with
  | some (some (.ml _)) => .ok (.sl i, d)
  | some (some m) => .ok (.val m, d)
  | _ => .no
def sArgV (f : Sm PyData) (g : Sm (List AR)) : Sm (List AR) := bd f fun d => bd g fun as => sret (.val (.fz d) :: as)
def sArgS (i : Nat) (g : Sm (List AR)) : Sm (List AR) := bd (vA i) fun a => bd g fun as => sret (a :: as)
section
variable {K : PySem.W.Frag} {mg : Str → Option Value} {F F' : Addr → Prop} {H H' : Hp} {σ : L2.St}
theorem RArg.keep (m : ∀ a, F a → F' a) (k : ∀ a o, F a → H a = some o → H' a = some o) {a : AR} {v : V} (h : RArg K mg F H σ a v) : RArg K mg F' H' σ a v := by
  cases a with
  | val x => exact RpM.keep m k x h fun a y => by cases y
  | sl i => exact h
theorem RArgs.length : ∀ {as : List AR} {vs : List V}, RArgs K mg F H σ as vs → vs.length = as.length
  | [], _, h => by rw [h] <;> rfl
  | a :: as, _, h => by
    obtain ⟨v, r, e, _, h⟩ := h
    rw [e, List.length_cons, List.length_cons, RArgs.length h]
theorem RArgs.get : ∀ {as : List AR} {vs : List V} {j : Nat} {a : AR}, RArgs K mg F H σ as vs → as[j]? = some a → ∃ v, vs[j]? = some v ∧ RArg K mg F H σ a v
  | [], _, _, _, _, e => by simp at e
  | a :: as, _, 0, b, h, e => by
    obtain ⟨v, r, e1, h1, _⟩ := h
    simp at e
    subst e e1
    exact ⟨v, rfl, h1⟩
  | a :: as, _, j + 1, b, h, e => by
    obtain ⟨v, r, e1, _, h⟩ := h
    subst e1
    obtain ⟨u, q1, q2⟩ := RArgs.get (j := j) h (by simpa using e)
    exact ⟨u, by simpa using q1, q2⟩
theorem slot_mem : ∀ {as : List AR} {j i : Nat}, as[j]? = some (.sl i) → i ∈ slotsOf as
  | [], _, _, e => by simp at e
  | .sl k :: as, 0, i, e => by
    simp at e
    subst e
    exact List.mem_cons_self ..
  | .val _ :: as, 0, i, e => by simp at e
  | .sl k :: as, j + 1, i, e => List.mem_cons_of_mem _ (slot_mem (j := j) (by simpa using e))
  | .val _ :: as, j + 1, i, e => slot_mem (as := as) (j := j) (by simpa using e)
theorem mem_slot : ∀ {as : List AR} {i : Nat}, i ∈ slotsOf as → ∃ j : Nat, as[j]? = some (AR.sl i)
  | .sl k :: as, i, h => by
    rcases List.mem_cons.mp h with y | y
    · subst y
      exact ⟨0, rfl⟩
    · obtain ⟨j, e⟩ := mem_slot y
      exact ⟨j + 1, by simpa using e⟩
  | .val _ :: as, i, h => by
    obtain ⟨j, e⟩ := mem_slot (as := as) h
    exact ⟨j + 1, by simpa using e⟩
theorem slot_inj : ∀ {as : List AR} {j l i : Nat}, (slotsOf as).Nodup → as[j]? = some (.sl i) → as[l]? = some (.sl i) → j = l
  | [], _, _, _, _, e, _ => by simp at e
  | .sl k :: as, 0, 0, i, _, _, _ => rfl
  | .sl k :: as, 0, l + 1, i, nd, e1, e2 => by
    simp at e1
    subst e1
    exact absurd (slot_mem (j := l) (by simpa using e2)) (List.nodup_cons.mp nd).1
  | .sl k :: as, j + 1, 0, i, nd, e1, e2 => by
    simp at e2
    subst e2
    exact absurd (slot_mem (j := j) (by simpa using e1)) (List.nodup_cons.mp nd).1
  | .sl k :: as, j + 1, l + 1, i, nd, e1, e2 => congrArg Nat.succ (slot_inj (as := as) (List.nodup_cons.mp nd).2 (by simpa using e1) (by simpa using e2))
  | .val _ :: as, 0, _, i, _, e1, _ => by simp at e1
  | .val _ :: as, _ + 1, 0, i, _, _, e2 => by simp at e2
  | .val _ :: as, j + 1, l + 1, i, nd, e1, e2 => congrArg Nat.succ (slot_inj (as := as) nd (by simpa using e1) (by simpa using e2))
theorem putA_len : ∀ {as : List AR} {os : List (Option M)} {ev : Ev}, (putA ev as os).length = ev.length
  | [], os, ev => by cases os <;> rfl
  | .sl i :: as, o :: os, ev => by
    show (putA (ev.set i o) as os).length = _
    rw [putA_len, List.length_set]
  | .val _ :: as, o :: os, ev => by
    show (putA ev as os).length = _
    rw [putA_len]
  | .sl _ :: as, [], ev => by unfold putA; rfl
  | .val _ :: as, [], ev => by unfold putA; rfl
theorem putA_out : ∀ {as : List AR} {os : List (Option M)} {ev : Ev} {i : Nat}, i ∉ slotsOf as → (putA ev as os)[i]? = ev[i]?
  | [], os, ev, _, _ => by cases os <;> rfl
  | .sl k :: as, o :: os, ev, i, h => by
    show (putA (ev.set k o) as os)[i]? = _
    rw [putA_out (fun y => h (List.mem_cons_of_mem _ y)), List.getElem?_set_ne (fun e => h (by rw [e]; exact List.mem_cons_self ..))]
  | .val _ :: as, o :: os, ev, i, h => putA_out (as := as) h
  | .sl _ :: as, [], ev, _, _ => by unfold putA; rfl
  | .val _ :: as, [], ev, _, _ => by unfold putA; rfl
theorem putA_in : ∀ {as : List AR} {os : List (Option M)} {ev : Ev} {i j : Nat}, (slotsOf as).Nodup → os.length = as.length → i < ev.length → as[j]? = some (.sl i) → (putA ev as os)[i]? = os[j]?
  | [], _, _, _, _, _, _, _, e => by simp at e
  | .sl k :: as, [], _, _, _, _, e, _, _ => by cases e
  | .val _ :: as, [], _, _, _, _, e, _, _ => by cases e
  | .sl k :: as, o :: os, ev, i, 0, nd, hl, hi, e => by
    simp at e
    subst e
    show (putA (ev.set k o) as os)[k]? = _
    rw [putA_out (List.nodup_cons.mp nd).1, List.getElem?_set_self hi] <;> rfl
  | .sl k :: as, o :: os, ev, i, j + 1, nd, hl, hi, e => by
    show (putA (ev.set k o) as os)[i]? = _
    rw [putA_in (j := j) (List.nodup_cons.mp nd).2 (by simpa using hl) (by rw [List.length_set]; exact hi) (by simpa using e)] <;> rfl
  | .val _ :: as, o :: os, ev, i, 0, nd, hl, hi, e => by simp at e
  | .val _ :: as, o :: os, ev, i, j + 1, nd, hl, hi, e => by
    show (putA ev as os)[i]? = _
    rw [putA_in (as := as) (j := j) nd (by simpa using hl) hi (by simpa using e)] <;> rfl
theorem putO_out {ow f : Nat → List Addr} : ∀ {as : List AR} {l i : Nat}, i ∉ slotsOf as → putO ow f as l i = ow i
  | [], _, _, _ => rfl
  | .sl k :: as, l, i, h => by
    show updN (putO ow f as (l + 1)) k (f l) i = _
    unfold updN
    rw [if_neg (fun e => h (by rw [e]; exact List.mem_cons_self ..))]
    exact putO_out fun y => h (List.mem_cons_of_mem _ y)
  | .val _ :: as, l, i, h => putO_out (as := as) h
theorem putO_in {ow f : Nat → List Addr} : ∀ {as : List AR} {l i j : Nat}, (slotsOf as).Nodup → as[j]? = some (.sl i) → putO ow f as l i = f (l + j)
  | [], _, _, _, _, e => by simp at e
  | .sl k :: as, l, i, 0, nd, e => by
    simp at e
    subst e
    show updN (putO ow f as (l + 1)) k (f l) k = _
    unfold updN
    rw [if_pos rfl] <;> rfl
  | .sl k :: as, l, i, j + 1, nd, e => by
    show updN (putO ow f as (l + 1)) k (f l) i = _
    have hm := slot_mem (as := as) (j := j) (i := i) (by simpa using e)
    unfold updN
    rw [if_neg (by intro y; subst y; exact (List.nodup_cons.mp nd).1 hm), putO_in (j := j) (List.nodup_cons.mp nd).2 (by simpa using e)]
    congr 1
    omega
  | .val _ :: as, l, i, 0, nd, e => by simp at e
  | .val _ :: as, l, i, j + 1, nd, e => by
    show putO ow f as (l + 1) i = _
    rw [putO_in (as := as) (j := j) nd (by simpa using e)]
    congr 1
    omega
theorem resA_get : ∀ {as : List AR} {ev : Ev} {ms : List M} {j : Nat} {a : AR}, resA ev as = some ms → as[j]? = some a → ∃ m, ms[j]? = some m ∧ (a = .val m ∨ ∃ i, a = .sl i ∧ ev[i]? = some (some m))
  | [], _, _, _, _, _, e => by simp at e
  | .val x :: as, ev, ms, j, a, h, e => by
    have h' : (resA ev as).map (x :: ·) = some ms := h
    obtain ⟨ms', h1, h2⟩ := Option.map_eq_some_iff.mp h'
    subst h2
    cases j with
    | zero =>
      simp at e
      subst e
      exact ⟨x, rfl, .inl rfl⟩
    | succ j => exact resA_get (as := as) (j := j) h1 (by simpa using e)
  | .sl k :: as, ev, ms, j, a, h, e => by
    have h' : (match ev[k]? with | some (some m) => (resA ev as).map (m :: ·) | _ => none) = some ms := h
    cases q : ev[k]? with
    | none => rw [q] at h'; cases h'
    | some o =>
      cases o with
      | none => rw [q] at h'; cases h'
      | some m =>
        rw [q] at h'
        obtain ⟨ms', h1, h2⟩ := Option.map_eq_some_iff.mp h'
        subst h2
        cases j with
        | zero =>
          simp at e
          subst e
          exact ⟨m, rfl, .inr ⟨k, rfl, q⟩⟩
        | succ j => exact resA_get (as := as) (j := j) h1 (by simpa using e)
theorem resA_len : ∀ {as : List AR} {ev : Ev} {ms : List M}, resA ev as = some ms → ms.length = as.length
  | [], _, _, h => by cases h; rfl
  | .val x :: as, ev, ms, h => by
    obtain ⟨ms', h1, h2⟩ := Option.map_eq_some_iff.mp (show (resA ev as).map (x :: ·) = some ms from h)
    subst h2
    rw [List.length_cons, List.length_cons, resA_len h1]
  | .sl k :: as, ev, ms, h => by
    have h' : (match ev[k]? with | some (some m) => (resA ev as).map (m :: ·) | _ => none) = some ms := h
    cases q : ev[k]? with
    | none => rw [q] at h'; cases h'
    | some o =>
      cases o with
      | none => rw [q] at h'; cases h'
      | some m =>
        rw [q] at h'
        obtain ⟨ms', h1, h2⟩ := Option.map_eq_some_iff.mp h'
        subst h2
        rw [List.length_cons, List.length_cons, resA_len h1]
end
end TW


set_option Elab.async false
set_option linter.all false
set_option maxRecDepth 100000
set_option maxHeartbeats 2000000
namespace TW
open PySem PySem.Spec PyProof.Rows L2

def owA (W : Wl) (as : List AR) : Nat → List Addr := fun j => match as[j]? with
  | some (.sl i) => W.ow i
  | _ => []
section
variable {K : PySem.W.Frag} {mg : Str → Option Value} {W W' : Wl} {H H' : Hp} {σ : L2.St} {as : List AR} {vs : List V} {ms : List M} {r : List Addr} {outs : List (Option M)}
theorem owA_sub {j : Nat} {a : Addr} (h : a ∈ owA W as j) : ∃ i, as[j]? = some (.sl i) ∧ a ∈ W.ow i := by
  unfold owA at h
  cases e : as[j]? with
  | none => rw [e] at h; cases h
  | some x =>
    rw [e] at h
    cases x with
    | val m => cases h
    | sl i => exact ⟨i, rfl, h⟩
theorem own_sub {F : Addr → Prop} {ev : Ev} {a : Addr} (h : own ⟨F, ev, owA W as⟩ a) : own W a := by
  obtain ⟨j, h⟩ := h
  obtain ⟨i, _, h⟩ := owA_sub h
  exact ⟨i, h⟩
/-- the callee's entry -/
theorem Sat.enter (S : Sat K mg W H σ) (nd : (slotsOf as).Nodup) (e : resA W.ev as = some ms) (ha : RArgs K mg W.F H σ as vs) : Sat K mg ⟨W.F, ms.map some, owA W as⟩ H (vs.map some) := by
  have l1 := RArgs.length ha
  have l2 := resA_len e
  refine ⟨by simp [l1, l2], fun j m hj => ?_, fun j hj => ?_, fun j => ?_, fun j l a h1 h2 => ?_, fun j a h => ?_, S.ft⟩
  · have hj' : (ms.map some)[j]? = some (some m) := hj
    rw [List.getElem?_map] at hj'
    obtain ⟨m', h1, h2⟩ := Option.map_eq_some_iff.mp hj'
    cases h2
    have hlt : j < as.length := by rw [← l2]; exact (List.getElem?_eq_some_iff.mp h1).1
    have ea : as[j]? = some as[j] := List.getElem?_eq_getElem hlt
    obtain ⟨m2, g1, g2⟩ := resA_get e ea
    rw [h1] at g1
    cases g1
    obtain ⟨v, v1, v2⟩ := RArgs.get ha ea
    refine ⟨v, by rw [List.getElem?_map, v1] <;> rfl, ?_⟩
    show RpM K mg W.F H m v (owA W as j)
    unfold owA
    rw [ea]
    rcases g2 with g2 | ⟨i, g2, g3⟩
    · rw [g2] at v2 ⊢
      exact v2
    · rw [g2] at v2 ⊢
      obtain ⟨u, u1, u2⟩ := S.slot i m g3
      have v2' : σ[i]? = some (some v) := v2
      rw [u1] at v2'
      cases v2'
      exact u2
  · show owA W as j = []
    unfold owA
    cases ea : as[j]? with
    | none => rfl
    | some x =>
      obtain ⟨m2, g1, g2⟩ := resA_get e ea
      exact absurd (by show (ms.map some)[j]? = _; rw [List.getElem?_map, g1] <;> rfl) (hj m2)
  · show (owA W as j).Nodup
    unfold owA
    split
    · exact S.nd _
    · exact List.nodup_nil
  · obtain ⟨i1, e1, h1⟩ := owA_sub h1
    obtain ⟨i2, e2, h2⟩ := owA_sub h2
    have := S.dj i1 i2 a h1 h2
    subst this
    exact slot_inj nd e1 e2
  · obtain ⟨i, _, h⟩ := owA_sub h
    exact S.nf i a h
/-- behind the call -/
theorem Sat.leave (S : Sat K mg W H σ) (nd : (slotsOf as).Nodup) (e : resA W.ev as = some ms) (ha : RArgs K mg W.F H σ as vs) (hl : outs.length = as.length) (eo : W'.ev = outs) (S' : Sat K mg W' H' (vs.map some))
    (st : Stp (own ⟨W.F, ms.map some, owA W as⟩) W.F H (fun x => own W' x ∨ x ∈ r) W'.F H') (dr : ∀ a ∈ r, ¬ W'.F a ∧ ¬ own W' a) :
    Sat K mg ⟨W'.F, putA W.ev as outs, putO W.ow W'.ow as 0⟩ H' σ ∧ (∀ a ∈ r, ¬ own ⟨W'.F, putA W.ev as outs, putO W.ow W'.ow as 0⟩ a) ∧ Stp (own W) W.F H (fun x => own ⟨W'.F, putA W.ev as outs, putO W.ow W'.ow as 0⟩ x ∨ x ∈ r) W'.F H' := by
  have inn : ∀ {i j : Nat}, as[j]? = some (AR.sl i) → putO W.ow W'.ow as 0 i = W'.ow j := fun {i j} h => by rw [putO_in nd h, Nat.zero_add]
  have len : ∀ {i j : Nat}, as[j]? = some (AR.sl i) → i < W.ev.length := fun {i j} h => by
    obtain ⟨m2, g1, g2⟩ := resA_get e h
    rcases g2 with g2 | ⟨i', g2, g3⟩
    · cases g2
    · cases g2
      exact (List.getElem?_eq_some_iff.mp g3).1
  -- an address of an untouched slot
  have far : ∀ {i : Nat} {a : Addr}, i ∉ slotsOf as → a ∈ W.ow i → ¬ own ⟨W.F, ms.map some, owA W as⟩ a := fun {i a} hn h y => by
    obtain ⟨j, y⟩ := y
    obtain ⟨i', e1, y⟩ := owA_sub y
    exact hn ((S.dj i i' a h y) ▸ slot_mem e1)
  have far2 : ∀ {i : Nat} {a : Addr}, i ∉ slotsOf as → a ∈ W.ow i → ¬ W'.F a ∧ ¬ own W' a ∧ a ∉ r := fun {i a} hn h => by
    have p := pend st (S.ownT ⟨i, h⟩) (S.nf i a h) (far hn h)
    exact ⟨p.1, fun y => p.2 (.inl y), fun y => p.2 (.inr y)⟩
  have cases' : ∀ {i : Nat} {a : Addr}, a ∈ putO W.ow W'.ow as 0 i → (∃ j : Nat, as[j]? = some (AR.sl i) ∧ a ∈ W'.ow j) ∨ (i ∉ slotsOf as ∧ a ∈ W.ow i) := fun {i a} h => by
    by_cases hm : i ∈ slotsOf as
    · obtain ⟨j, ej⟩ := mem_slot hm
      rw [inn ej] at h
      exact .inl ⟨j, ej, h⟩
    · rw [putO_out hm] at h
      exact .inr ⟨hm, h⟩
  refine ⟨⟨by rw [S.len]; exact putA_len.symm, fun i m hi => ?_, fun i hi => ?_, fun i => ?_, fun i l a h1 h2 => ?_, fun i a h => ?_, S'.ft⟩, fun a ha y => ?_, ⟨st.mono, fun a o h n => st.out a o h fun y => n (own_sub y), fun a h => ?_, fun a h => ?_⟩⟩
  · have hi' : (putA W.ev as outs)[i]? = some (some m) := hi
    by_cases hm : i ∈ slotsOf as
    · obtain ⟨j, ej⟩ := mem_slot hm
      rw [putA_in nd hl (len ej) ej] at hi'
      obtain ⟨v, h1, h2⟩ := S'.slot j m (by rw [eo]; exact hi')
      obtain ⟨u, u1, u2⟩ := RArgs.get ha ej
      rw [List.getElem?_map, u1] at h1
      cases h1
      refine ⟨v, u2, ?_⟩
      show RpM K mg W'.F H' m v (putO W.ow W'.ow as 0 i)
      rw [inn ej]
      exact h2
    · rw [putA_out hm] at hi'
      obtain ⟨v, h1, h2⟩ := S.slot i m hi'
      refine ⟨v, h1, ?_⟩
      show RpM K mg W'.F H' m v (putO W.ow W'.ow as 0 i)
      rw [putO_out hm]
      exact RpM.keep st.mono (fun a o f y => st.out a o y fun z => by
        obtain ⟨i2, z⟩ := own_sub z
        exact S.nf i2 a z f) m h2 fun a ha u hu => st.out a u hu (far hm ha)
  · show putO W.ow W'.ow as 0 i = []
    by_cases hm : i ∈ slotsOf as
    · obtain ⟨j, ej⟩ := mem_slot hm
      rw [inn ej]
      refine S'.nil j fun m z => hi m ?_
      show (putA W.ev as outs)[i]? = _
      rw [putA_in nd hl (len ej) ej, ← eo]
      exact z
    · rw [putO_out hm]
      refine S.nil i fun m z => hi m ?_
      show (putA W.ev as outs)[i]? = _
      rw [putA_out hm]
      exact z
  · show (putO W.ow W'.ow as 0 i).Nodup
    by_cases hm : i ∈ slotsOf as
    · obtain ⟨j, ej⟩ := mem_slot hm
      rw [inn ej]
      exact S'.nd j
    · rw [putO_out hm]
      exact S.nd i
  · rcases cases' h1 with ⟨j1, e1, q1⟩ | ⟨n1, q1⟩
    · rcases cases' h2 with ⟨j2, e2, q2⟩ | ⟨n2, q2⟩
      · have := S'.dj j1 j2 a q1 q2
        subst this
        rw [e1] at e2
        cases e2
        rfl
      · exact absurd ⟨j1, q1⟩ (far2 n2 q2).2.1
    · rcases cases' h2 with ⟨j2, e2, q2⟩ | ⟨n2, q2⟩
      · exact absurd ⟨j2, q2⟩ (far2 n1 q1).2.1
      · exact S.dj i l a q1 q2
  · rcases cases' h with ⟨j1, e1, q1⟩ | ⟨n1, q1⟩
    · exact S'.nf j1 a q1
    · exact (far2 n1 q1).1
  · obtain ⟨i, y⟩ := y
    rcases cases' y with ⟨j1, e1, q1⟩ | ⟨n1, q1⟩
    · exact (dr a ha).2 ⟨j1, q1⟩
    · exact (far2 n1 q1).2.2 ha
  · rcases st.fnew a h with y | y | y
    · exact .inl y
    · exact .inr (.inl (own_sub y))
    · exact .inr (.inr y)
  · rcases h with ⟨i, y⟩ | y
    · rcases cases' y with ⟨j1, e1, q1⟩ | ⟨n1, q1⟩
      · rcases st.onew a (.inl ⟨j1, q1⟩) with w | w
        · exact .inl (own_sub w)
        · exact .inr w
      · exact .inl ⟨i, q1⟩
    · rcases st.onew a (.inr y) with w | w
      · exact .inl (own_sub w)
      · exact .inr w
end
section
variable {X : Cx} {Ex : XK} {q : Bool} {e : Expr} {es : List Expr} {pos p : Pos} {n k : Nat} {x : Str} {CX : CXT} {F : FS} {fa : Sm PyData} {g fs : Sm (List AR)} {i : Nat}
theorem gar_nil : GAr X Ex q 0 [] (sret []) := pa_weak pa_nil fun σ H Q z ⟨W, S, h⟩ z2 => h.done (r := []) S z2 ⟨rfl, rfl, rfl⟩ rfl
theorem gar_val (h1 : GE X Ex q RF e fa) (h2 : GAr X Ex q n es g) (hs : notStar e = true) : GAr X Ex q (n + 1) (e :: es) (sArgV fa g) := by
  refine pa_weak (pa_cons h1 h2 (star_cons hs es X.env)) fun σ H Q z h => tG.bin h (fun K mg W H a v r y => y.1) fun d as x xs W H' S z' r1 r2 k z2 => ?_
  exact k.done S z2 ⟨rfl, by rw [List.length_cons, r2.2.1], x, xs, rfl, ⟨rfl, r1⟩, r2.2.2⟩ rfl
theorem gar_slot (nm : Nm X i x) (h2 : GAr X Ex q n es g) : GAr X Ex q (n + 1) (.Name x pos :: es) (sArgS i g) := by
  refine pa_weak (pa_cons (pe_var nm.at_ nm.vis nm.hd nm.hcd) h2 (star_cons rfl es X.env)) fun σ H Q z ⟨W, S, h⟩ => ?_
  have go : ∀ (a : AR) (v : V), vA i W.ev = .ok (a, W.ev) → σ[i]? = some (some v) → RArg X.K X.mg W.F H σ a v → ∃ v, σ[i]? = some (some v) ∧ tG X Ex q (RAR σ n) g σ H (fun vs H1 => SzOk H1 → Q (v :: vs) H1) := fun a v e1 e2 e3 => by
    refine ⟨v, e2, W, S, ?_⟩
    have e5 : sArgS i g W.ev = bd g (fun as => sret (a :: as)) W.ev := by show bd (vA i) _ W.ev = _; unfold bd; rw [e1]
    refine h.sub (W1 := W) (T := []) (g1 := fun as => sret (a :: as)) e5 (Stp.refl.less fun x y => y.elim id fun y => by cases y) fun as vs W2 H2 r2 e4 S2 z2 hr st qt z3 => ?_
    obtain ⟨en, ln, ra⟩ := hr
    subst en
    refine h.fin (a := a :: as) (d' := W2.ev) (by rw [e5]; unfold bd; rw [e4]; rfl) (v :: vs) W2 H2 [] rfl S2 z3 ⟨rfl, by rw [List.length_cons, ln], v, vs, rfl, e3.keep st.mono (S.keepF st), ra⟩ (st.less fun x y => y) fun y => qt y
  cases e0 : W.ev[i]? with
  | none => exact (no_of h (by show bd (vA i) _ W.ev = _; unfold bd vA; rw [e0])).elim
  | some o =>
    cases o with
    | none => exact (no_of h (by show bd (vA i) _ W.ev = _; unfold bd vA; rw [e0])).elim
    | some m =>
      obtain ⟨v, h1, h2⟩ := S.slot i _ e0
      cases m with
      | ml xs => exact go (.sl i) v (by unfold vA; rw [e0]) h1 h1
      | fz d =>
        have en := h2.nil_of fun _ y => by cases y
        rw [en] at h2
        exact go (.val (.fz d)) v (by unfold vA; rw [e0]) h1 h2
      | fn d =>
        have en := h2.nil_of fun _ y => by cases y
        rw [en] at h2
        exact go (.val (.fn d)) v (by unfold vA; rw [e0]) h1 h2
      | sc d =>
        have en := h2.nil_of fun _ y => by cases y
        rw [en] at h2
        exact go (.val (.sc d)) v (by unfold vA; rw [e0]) h1 h2
/-- a def called -/
theorem call_run {σ : L2.St} {W : Wl} {H : Hp} {Q : V → Hp → Prop} (h : tG X Ex false RE (sCall F fs) σ H Q) (hl : ∀ as : List AR, True) : tG X Ex false (RAR σ n) fs σ H (fun vs H1 => spOf X.K X.mg n F vs H1 (fun v H' => SzOk H' → Q v H') Ex) := by
  obtain ⟨W, S, h⟩ := h
  refine ⟨W, S, ?_⟩
  refine h.sub (W1 := W) (T := []) rfl (Stp.refl.less fun x y => y.elim id fun y => by cases y) fun as vs W1 H1 r1 e1 S1 z1 hr st qt => ?_
  obtain ⟨en, ln, ra⟩ := hr
  subst en
  have st1 := st.less (O2 := own W1) fun x y => .inl y
  have k := h.next e1 st1 fun y => by cases y
  have l1 := RArgs.length ra
  refine ⟨by rw [l1, ln], ?_⟩
  by_cases nd : (slotsOf as).Nodup
  · cases er : resA W1.ev as with
    | none => exact (no_of k (by unfold callK; rw [if_pos nd, er])).elim
    | some ms =>
      refine ⟨⟨W1.F, ms.map some, owA W1 as⟩, ms, rfl, S1.enter nd er ra, ?_⟩
      cases ef : F ms with
      | no => exact (no_of k (by unfold callK; rw [if_pos nd, er]; show (match F ms with | .ok (m, outs) => _ | .exc c => _ | .no => _) = _; rw [ef])).elim
      | exc c =>
        have e2 : callK F as W1.ev = .exc c := by unfold callK; rw [if_pos nd, er]; show (match F ms with | .ok (m, outs) => _ | .exc c => _ | .no => _) = _; rw [ef]
        unfold Run at k
        rw [e2] at k
        exact fun H' kk => k H' fun a o ho hn => kk a o ho fun y => hn (own_sub y)
      | ok p =>
        obtain ⟨m, outs⟩ := p
        have e2 : callK F as W1.ev = if outs.length = as.length then .ok (m, putA W1.ev as outs) else .no := by unfold callK; rw [if_pos nd, er]; show (match F ms with | .ok (m, outs) => _ | .exc c => _ | .no => _) = _; rw [ef]
        by_cases hlen : outs.length = as.length
        · rw [if_pos hlen] at e2
          intro v H' W' r a1 a2 a3 a4 a5 z3
          obtain ⟨b1, b2, b3⟩ := S1.leave nd er ra hlen a1 a2 a5 a4.2.2
          exact k.fin e2 v _ H' r rfl b1 z3 ⟨a4.1, a4.2.1, fun a ha => ⟨(a4.2.2 a ha).1, b2 a ha⟩⟩ b3 fun y => by cases y
        · rw [if_neg hlen] at e2
          exact (no_of k e2).elim
  · exact (no_of k (by unfold callK; rw [if_neg nd])).elim
theorem ge_call (fd : FnD X.prog X.w X.K X.mg X.base CX k x n F) (hr : Room k X.A) (hgd : X.A.guards = some []) (hg : Gl X x) (hd : (x == ("__debug__" : Str)) = false) (hx : Passes CX X Ex) (ha : GAr X Ex false n (e :: es) fs) (hs : notStar e = true) (hs2 : es.all notStar = true) :
    GE X Ex false RE (.Call (.Name x p) (e :: es) [] pos) (sCall F fs) := by
  obtain ⟨f, fdt, ps, h1, h2, h3, h4⟩ := fd.ex
  refine pe_weak (pe_callG h1 hr hgd hg h2 h3 h4 hx ha hd (star_cons hs es X.env) (star_plain _ _ _ hs2)) fun σ H Q z h => ?_
  exact call_run (n := n) (W := ⟨fun _ => False, [], fun _ => []⟩) h fun _ => trivial
end
end TW


set_option Elab.async false
set_option linter.all false
set_option maxRecDepth 100000
set_option maxHeartbeats 2000000
namespace TW
open PySem PySem.Spec PyProof.Rows L2

/-! ### comprehensions with any number of clauses: one turn, what is behind a turn's tests -/
def turnF (t i : Expr) (ifs : List Expr) (it : Value) (env : PySem.Env) (body : Sem Fin → Sem Fin) (ag : Sem Fin) : Sem Fin := do
  standAt i.pos
  match ← pyNext it with
  | none => pure (.done .next)
  | some v =>
    letOwnedTupleGo t it v
    assign t env v
    let mut ok := true
    for c in ifs do
      if ok then ok ← isTrue c env (eval c env)
    if ok then body ag else ag
def midF (nd : Expr) (n : Nat) (i : Expr) (env : PySem.Env) (acc : Value) (ag : Sem Fin) : Sem Fin := do
  let x ← eval i env
  standAt i.pos
  let x ← foldedSetIterable i env x
  let _ ← runOwn (.compStart nd n (← holding [x] (pyIter x)) acc env) env
  ag
def appF (elt : Expr) (env : PySem.Env) (acc : Value) (ag : Sem Fin) : Sem Fin := do
  (do let _ ← call (.builtin "list.append") [acc, ← eval elt env])
  ag
example (elt t0 i0 t1 i1 t2 i2 : Expr) (ifs0 ifs1 ifs2 : List Expr) (scope : Scope) (pos : Pos) (it acc : Value) (env : PySem.Env) :
    compTurn (.ListComp elt [⟨t0, i0, ifs0, 0⟩, ⟨t1, i1, ifs1, 0⟩, ⟨t2, i2, ifs2, 0⟩] scope pos) 1 it acc env = turnF t1 i1 ifs1 it env (midF (.ListComp elt [⟨t0, i0, ifs0, 0⟩, ⟨t1, i1, ifs1, 0⟩, ⟨t2, i2, ifs2, 0⟩] scope pos) 2 i2 env acc) (again (.compLoop (.ListComp elt [⟨t0, i0, ifs0, 0⟩, ⟨t1, i1, ifs1, 0⟩, ⟨t2, i2, ifs2, 0⟩] scope pos) 1 it acc env)) := by rfl
example (elt t0 i0 t1 i1 t2 i2 : Expr) (ifs0 ifs1 ifs2 : List Expr) (scope : Scope) (pos : Pos) (it acc : Value) (env : PySem.Env) :
    compTurn (.ListComp elt [⟨t0, i0, ifs0, 0⟩, ⟨t1, i1, ifs1, 0⟩, ⟨t2, i2, ifs2, 0⟩] scope pos) 2 it acc env = turnF t2 i2 ifs2 it env (appF elt env acc) (again (.compLoop (.ListComp elt [⟨t0, i0, ifs0, 0⟩, ⟨t1, i1, ifs1, 0⟩, ⟨t2, i2, ifs2, 0⟩] scope pos) 2 it acc env)) := by rfl

/-- a list's or a dict's comprehension -/
def IsLD (nd : Expr) : Prop := (∃ elt gens scope pos, nd = .ListComp elt gens scope pos) ∨ ∃ kx vx gens scope pos, nd = .DictComp kx vx gens scope pos
section
variable {prog : Program} {w : World} {A : Around} {R : Result → Shared → Prop} {s : Shared} {nd t i : Expr} {ifs : List Expr} {it acc : Value} {env : PySem.Env} {n : Nat} {body : Sem Fin → Sem Fin}
/-- a clause's loop -/
theorem compLoopGL (hT : compTurn nd n it acc env = turnF t i ifs it env body (again (.compLoop nd n it acc env))) (I : Nat → Shared → Prop)
    (turn : ∀ m s, I m s → wpAny (model prog w) A (pyNext it) (fun r s₁ => match r with
      | none => R (.ok .next) s₁
      | some v => wpAny (model prog w) A (letOwnedTupleGo t it v) (fun _ s₁' => wpAny (model prog w) A (assign t env v) (fun _ s₂ =>
          wpAny (model prog w) A (forIn ifs true fun c r => if r = true then do let ok ← isTrue c env (eval c env); pure (ForInStep.yield ok) else pure (ForInStep.yield r)) (fun ok s₃ =>
            if ok = true then (∀ (ag : Sem Fin) (Q : Fin → Shared → Prop) (E : Value → Shared → Prop), (∀ m' s', m' < m → I m' s' → wpAny (model prog w) A ag Q E s') → wpAny (model prog w) A (body ag) Q E s₃)
            else ∃ m', m' < m ∧ I m' s₃) (notedBy (model prog w) A env fun e s' => R (.error e) s') s₂) (notedBy (model prog w) A env fun e s' => R (.error e) s') s₁') (notedBy (model prog w) A env fun e s' => R (.error e) s') s₁) (notedBy (model prog w) A env fun e s' => R (.error e) s') s)
    (hnd : ∃ elt gens scope pos, nd = .ListComp elt gens scope pos) (m : Nat) (h : I m s) :
    codeAny (model prog w) A (.compLoop nd n it acc env) R s := by
  obtain ⟨elt, gens, scope, pos, rfl⟩ := hnd
  refine codeAny_loop rfl I (fun m s hI => ?_) m h
  show wpAny _ A ((compTurn (.ListComp elt gens scope pos) n it acc env).onRaise (fun x => do noteFrame x env; theTreesLotGoes x)) _ _ s
  refine wpAny_noted ?_
  rw [hT]
  refine wpAny_bind (wpAny_standAt (wpAny_bind (wpAny_mono (turn m s hI) (fun r s₁ h₁ => ?_) fun _ _ h' => h')))
  cases r with
  | none => exact wpAny_pure h₁
  | some v =>
    refine wpAny_bind (wpAny_mono h₁ (fun _ s₁' h₁' => ?_) fun _ _ h' => h')
    refine wpAny_bind (wpAny_mono h₁' (fun _ s₂ h₂ => wpAny_bind (wpAny_mono h₂ (fun ok s₃ h₃ => ?_) fun _ _ h' => h')) fun _ _ h' => h')
    cases ok with
    | false => exact wpAny_pure ⟨rfl, h₃⟩
    | true => exact h₃ _ _ _ fun m' s' hm hi => wpAny_pure ⟨rfl, m', hm, hi⟩

theorem compLoopGD (hT : compTurn nd n it acc env = turnF t i ifs it env body (again (.compLoop nd n it acc env))) (I : Nat → Shared → Prop)
    (turn : ∀ m s, I m s → wpAny (model prog w) A (pyNext it) (fun r s₁ => match r with
      | none => R (.ok .next) s₁
      | some v => wpAny (model prog w) A (letOwnedTupleGo t it v) (fun _ s₁' => wpAny (model prog w) A (assign t env v) (fun _ s₂ =>
          wpAny (model prog w) A (forIn ifs true fun c r => if r = true then do let ok ← isTrue c env (eval c env); pure (ForInStep.yield ok) else pure (ForInStep.yield r)) (fun ok s₃ =>
            if ok = true then (∀ (ag : Sem Fin) (Q : Fin → Shared → Prop) (E : Value → Shared → Prop), (∀ m' s', m' < m → I m' s' → wpAny (model prog w) A ag Q E s') → wpAny (model prog w) A (body ag) Q E s₃)
            else ∃ m', m' < m ∧ I m' s₃) (notedBy (model prog w) A env fun e s' => R (.error e) s') s₂) (notedBy (model prog w) A env fun e s' => R (.error e) s') s₁') (notedBy (model prog w) A env fun e s' => R (.error e) s') s₁) (notedBy (model prog w) A env fun e s' => R (.error e) s') s)
    (hnd : ∃ kx vx gens scope pos, nd = .DictComp kx vx gens scope pos) (m : Nat) (h : I m s) :
    codeAny (model prog w) A (.compLoop nd n it acc env) R s := by
  obtain ⟨kx, vx, gens, scope, pos, rfl⟩ := hnd
  refine codeAny_loop rfl I (fun m s hI => ?_) m h
  show wpAny _ A ((compTurn (.DictComp kx vx gens scope pos) n it acc env).onRaise (fun x => do noteFrame x env; theTreesLotGoes x)) _ _ s
  refine wpAny_noted ?_
  rw [hT]
  refine wpAny_bind (wpAny_standAt (wpAny_bind (wpAny_mono (turn m s hI) (fun r s₁ h₁ => ?_) fun _ _ h' => h')))
  cases r with
  | none => exact wpAny_pure h₁
  | some v =>
    refine wpAny_bind (wpAny_mono h₁ (fun _ s₁' h₁' => ?_) fun _ _ h' => h')
    refine wpAny_bind (wpAny_mono h₁' (fun _ s₂ h₂ => wpAny_bind (wpAny_mono h₂ (fun ok s₃ h₃ => ?_) fun _ _ h' => h')) fun _ _ h' => h')
    cases ok with
    | false => exact wpAny_pure ⟨rfl, h₃⟩
    | true => exact h₃ _ _ _ fun m' s' hm hi => wpAny_pure ⟨rfl, m', hm, hi⟩
/-- a clause's loop -/
theorem compLoopG (hT : compTurn nd n it acc env = turnF t i ifs it env body (again (.compLoop nd n it acc env))) (I : Nat → Shared → Prop)
    (turn : ∀ m s, I m s → wpAny (model prog w) A (pyNext it) (fun r s₁ => match r with
      | none => R (.ok .next) s₁
      | some v => wpAny (model prog w) A (letOwnedTupleGo t it v) (fun _ s₁' => wpAny (model prog w) A (assign t env v) (fun _ s₂ =>
          wpAny (model prog w) A (forIn ifs true fun c r => if r = true then do let ok ← isTrue c env (eval c env); pure (ForInStep.yield ok) else pure (ForInStep.yield r)) (fun ok s₃ =>
            if ok = true then (∀ (ag : Sem Fin) (Q : Fin → Shared → Prop) (E : Value → Shared → Prop), (∀ m' s', m' < m → I m' s' → wpAny (model prog w) A ag Q E s') → wpAny (model prog w) A (body ag) Q E s₃)
            else ∃ m', m' < m ∧ I m' s₃) (notedBy (model prog w) A env fun e s' => R (.error e) s') s₂) (notedBy (model prog w) A env fun e s' => R (.error e) s') s₁') (notedBy (model prog w) A env fun e s' => R (.error e) s') s₁) (notedBy (model prog w) A env fun e s' => R (.error e) s') s)
    (hnd : IsLD nd) (m : Nat) (h : I m s) :
    codeAny (model prog w) A (.compLoop nd n it acc env) R s := by
  rcases hnd with h1 | h1
  · exact compLoopGL hT I turn h1 m h
  · exact compLoopGD hT I turn h1 m h
theorem compStartGL (hcl : clausesOf nd = cs) {g : Comprehension} (hg : cs[n]? = some g) (h0g : g.is_async = 0) (hnd : ∃ elt gens scope pos, nd = .ListComp elt gens scope pos)
    (h0 : codeAny (model prog w) A (.compLoop nd n it acc env) R s)
    (h : wpAny (model prog w) A (pyIter it) (fun it' s' => codeAny (model prog w) A (.compLoop nd n it' acc env) R s') (notedBy (model prog w) A env fun x s' => R (.error x) s') s) :
    codeAny (model prog w) A (.compStart nd n it acc env) R s := by
  obtain ⟨elt, gens, scope, pos, rfl⟩ := hnd
  refine codeAny_of_tree ?_
  show wpAny _ _ ((compStart (.ListComp elt gens scope pos) n it acc env).onRaise (fun x => do noteFrame x env; standAt theWindowsPlace)) _ _ s
  refine wpAny_notedAt ?_
  unfold compStart
  rw [hcl, hg]
  have e0 : (Option.elim (some g) false fun x => x.is_async != 0) = false := by show (g.is_async != 0) = false; rw [h0g]; rfl
  rw [e0]
  show wpAny _ _ (ask >>= _) _ _ s
  refine wpAny_bind (wpAny_askSetting (wpAny_ite ?_))
  split
  · first
      | exact wpAny_bind (wpAny_pure (wpAny_pure (And.intro rfl h0)))
      | exact wpAny_pure (And.intro rfl h0)
  · first
      | exact wpAny_bind (wpAny_rule (wpAny_bind (wpAny_standAt (wpAny_bind (wpAny_mono h (fun it' s' h' => wpAny_pure (And.intro rfl h')) fun _ _ x => x)))))
      | (refine wpAny_bind (wpAny_rule ?_); show wpAny _ _ (standAt g.iter.pos >>= _) _ _ s; exact wpAny_bind (wpAny_standAt (wpAny_bind (wpAny_mono h (fun it' s' h' => wpAny_pure (And.intro rfl h')) fun _ _ x => x))))
theorem compStartGD (hcl : clausesOf nd = cs) {g : Comprehension} (hg : cs[n]? = some g) (h0g : g.is_async = 0) (hnd : ∃ kx vx gens scope pos, nd = .DictComp kx vx gens scope pos)
    (h0 : codeAny (model prog w) A (.compLoop nd n it acc env) R s)
    (h : wpAny (model prog w) A (pyIter it) (fun it' s' => codeAny (model prog w) A (.compLoop nd n it' acc env) R s') (notedBy (model prog w) A env fun x s' => R (.error x) s') s) :
    codeAny (model prog w) A (.compStart nd n it acc env) R s := by
  obtain ⟨kx, vx, gens, scope, pos, rfl⟩ := hnd
  refine codeAny_of_tree ?_
  show wpAny _ _ ((compStart (.DictComp kx vx gens scope pos) n it acc env).onRaise (fun x => do noteFrame x env; standAt theWindowsPlace)) _ _ s
  refine wpAny_notedAt ?_
  unfold compStart
  rw [hcl, hg]
  have e0 : (Option.elim (some g) false fun x => x.is_async != 0) = false := by show (g.is_async != 0) = false; rw [h0g]; rfl
  rw [e0]
  show wpAny _ _ (ask >>= _) _ _ s
  refine wpAny_bind (wpAny_askSetting (wpAny_ite ?_))
  split
  · first
      | exact wpAny_bind (wpAny_pure (wpAny_pure (And.intro rfl h0)))
      | exact wpAny_pure (And.intro rfl h0)
  · first
      | exact wpAny_bind (wpAny_rule (wpAny_bind (wpAny_standAt (wpAny_bind (wpAny_mono h (fun it' s' h' => wpAny_pure (And.intro rfl h')) fun _ _ x => x)))))
      | (refine wpAny_bind (wpAny_rule ?_); show wpAny _ _ (standAt g.iter.pos >>= _) _ _ s; exact wpAny_bind (wpAny_standAt (wpAny_bind (wpAny_mono h (fun it' s' h' => wpAny_pure (And.intro rfl h')) fun _ _ x => x))))
theorem compStartG (hcl : clausesOf nd = cs) {g : Comprehension} (hg : cs[n]? = some g) (h0g : g.is_async = 0) (hnd : IsLD nd)
    (h0 : codeAny (model prog w) A (.compLoop nd n it acc env) R s)
    (h : wpAny (model prog w) A (pyIter it) (fun it' s' => codeAny (model prog w) A (.compLoop nd n it' acc env) R s') (notedBy (model prog w) A env fun x s' => R (.error x) s') s) :
    codeAny (model prog w) A (.compStart nd n it acc env) R s := by
  rcases hnd with h1 | h1
  · exact compStartGL hcl hg h0g h1 h0 h
  · exact compStartGD hcl hg h0g h1 h0 h
end
/-! ### readings -/
abbrev TTl := L2.St → Hp → Addr → (Hp → Prop) → Prop
structure PTl (B : Cx) (code : Value → Sem Fin → Sem Fin) (vs : List Nat) (t : TTl) : Prop where
  run : ∀ (pins : List (Addr × Obj)) (s : Shared) (σ : L2.St) (H : Hp) (D : Addr) (Nx : Hp → Prop) (ag : Sem Fin) (Q : Fin → Shared → Prop) (E : Value → Shared → Prop), Inv B pins σ H s → t σ H D Nx → (∀ s' H', Inv B pins (wipe σ vs) H' s' → Nx H' → wpAny (model B.prog B.w) B.A ag Q E s') →
    wpAny (model B.prog B.w) B.A (code (.ref D) ag) Q E s
def tTlLast (te : TE) : TTl := fun σ H D Nx => te σ H fun y H' => ∃ acc, H' D = some (.lst acc) ∧ acc.length < sizeLine ∧ Nx (upd H' D (.lst (acc ++ [y])))
def tTurn (J : It) (g : TG) (tt : TT) (tl : TTl) (vs : List Nat) (σ : L2.St) (D : Addr) (W : Nat → Nat → Hp → Prop) (i m : Nat) (H : Hp) : Prop :=
  J.go i H ∧ ∃ Nx1 : Hp → Prop, (∀ H', Nx1 H' → ∃ m', m' < m ∧ W (i + 1) m' H') ∧ ∀ x H', J.yld i H x H' → g x (wipe σ vs) H' fun σ2 H2 => wipe σ2 vs = wipe σ vs ∧ tt σ2 H2 fun b H3 => if b = true then tl σ2 H3 D Nx1 else Nx1 H3
def tTlMid (wi : TI) (g : TG) (tt : TT) (tl : TTl) (vs : List Nat) : TTl := fun σ H D Nx => wi σ H fun J H1 => ∃ W : Nat → Nat → Hp → Prop, (∃ m, W 0 m H1) ∧ ∀ i m H, W i m H → (J.stop i H ∧ Nx H) ∨ tTurn J g tt tl vs σ D W i m H
def tLcG (wi : TI) (g : TG) (tt : TT) (tl : TTl) (vs : List Nat) : TE := fun σ H Q => wi σ H fun J H1 => ∀ D, H1 D = none → ∃ W : Nat → Nat → Hp → Prop, (∃ m, W 0 m (upd H1 D (.lst []))) ∧ ∀ i m H, W i m H → (J.stop i H ∧ Q (.ref D) H) ∨ tTurn J g tt tl vs σ D W i m H
section
variable {B : Cx} {elt : Expr} {te : TE}
theorem ptl_last (hx : B.xe = fun _ _ => False) (he : PE B elt te) : PTl B (appF elt B.env) [] (tTlLast te) := by
  refine ⟨fun pins s σ H D Nx ag Q E I h k => ?_⟩
  unfold appF
  have he' := he.run pins s σ H _ I h
  rw [hx] at he'
  refine wpAny_bind (wpAny_bind (thnF he' fun v s1 ⟨y, H1, I1, r1, acc, hD, hz, nx⟩ => ?_))
  exact wpAny_bind (app_ok I1 hD hz r1 fun s2 I2 => wpAny_pure (k s2 _ I2 nx))
theorem wipe_sub {σ τ : L2.St} {vs ws : List Nat} (hs : ∀ i ∈ ws, i ∈ vs) (h : wipe τ vs = wipe σ vs) : wipe (wipe τ ws) vs = wipe σ vs := by
  rw [← h]
  exact wipe_same (wipe_length τ ws) fun i hi => wipe_out fun z => hi (hs i z)
/-- what is known at wipe σ vs is known at a later state -/
theorem wipe_know {σ τ : L2.St} {vs : List Nat} (h : wipe τ vs = wipe σ vs) : (wipe σ vs).length = τ.length ∧ ∀ (j : Nat) v, (wipe σ vs)[j]? = some (some v) → τ[j]? = some (some v) :=
  ⟨by rw [← h, wipe_length], fun j v e => by rw [← h] at e; exact (wipe_some e).1⟩
theorem ptl_mid {nd t i : Expr} {ifs : List Expr} {n : Nat} {wi : TI} {g : TG} {tt : TT} {tl : TTl} {vs ws : List Nat} {body : Value → Sem Fin → Sem Fin} {cs : List Comprehension} (hc : B.calm = true) (hx : B.xe = fun _ _ => False) (hnd : IsLD nd) (hcl : clausesOf nd = cs) {gc : Comprehension} (hgc : cs[n]? = some gc) (h0g : gc.is_async = 0)
    (hT : ∀ it acc, compTurn nd n it acc B.env = turnF t i ifs it B.env (body acc) (again (.compLoop nd n it acc B.env))) (hi : PI B t i wi) (hg : PG B t g) (ht : PTs B ifs tt) (hb : PTl B body ws tl) (hs : ∀ x, foldedSetIterable i B.env x = pure x) (hws : ∀ i ∈ ws, i ∈ vs) :
    PTl B (fun acc ag => midF nd n i B.env acc ag) vs (tTlMid wi g tt tl vs) := by
  refine ⟨fun pins s σ H D Nx ag Q E I h k => ?_⟩
  unfold midF
  have hi' := hi.run pins s σ H _ I h
  rw [hx] at hi'
  refine wpAny_bind (thnF hi' fun xv s1 hx1 => ?_)
  refine wpAny_bind (wpAny_standAt (wpAny_bind (wpAny_of_eq (hs xv) (wpAny_bind (wpAny_holding (thnF hx1 fun itv s2 h2 => ?_))))))
  obtain ⟨it, fp, tn, J, H2, e, I2, T, st2, f2, W, ⟨m0, w0⟩, turn⟩ := h2
  subst e
  have stat : ∀ {H' : Hp}, (∀ b ∈ fp, H' b = none) → ∀ b ∈ fp, FpOk B pins H' b := fun hn b hb => ⟨hn b hb, (f2 b hb).2⟩
  refine wpAny_bind (wpAny_runOwn ?_)
  rw [Around.mark_none]
  have loop : codeAny (model B.prog B.w) B.A (.compLoop nd n (.ref it) (.ref D) B.env) (fun r s' => match r with
      | .ok _ => ∃ H', Inv B pins (wipe σ vs) H' s' ∧ Nx H'
      | .error _ => False) s2 := by
    refine compLoopG (hT _ _) (fun m s' => ∃ j H', Inv B pins (wipe σ vs) H' s' ∧ tn j s'.heap ∧ (∀ b ∈ fp, H' b = none) ∧ W j m H') ?_ hnd m0 ⟨0, H2, I2.weak (wipe_length _ _) (fun j v e => (wipe_some e).1), st2, fun b hb => (f2 b hb).1, w0⟩
    rintro m s3 ⟨j, H3, I3, st3, n3, w3⟩
    rcases turn j m H3 w3 with ⟨stop, nx⟩ | ⟨go, Nx1, hNx, step⟩
    · refine thnF (T.done B rfl rfl rfl hc j _ s3 (wipe σ vs) H3 (fun _ _ => False) I3 (stat n3) st3 stop) fun r s4 ⟨hr, I4⟩ => ?_
      subst hr
      exact ⟨H3, I4, nx⟩
    · refine thnF (T.item B rfl rfl rfl hc j _ s3 (wipe σ vs) H3 (fun _ _ => False) I3 (stat n3) st3 go) fun r s4 ⟨u, hr, h4⟩ => ?_
      subst hr
      refine thnF h4 fun _ s5 ⟨x, H5, I5, r5, y5, st5, n5⟩ => ?_
      have I5' := I5.pinned (stat n5) (T.obj _ _ st5)
      have hg' := hg.run _ s5 (wipe σ vs) H5 x u _ I5' r5 (step x H5 y5)
      rw [hx] at hg'
      refine thnF hg' fun _ s6 ⟨σ6, H6, I6, hw6, q6⟩ => ?_
      have ht' := ht.run _ s6 σ6 H6 _ I6 q6
      rw [hx] at ht'
      refine thnF ht' fun b s7 ⟨H7, I7, q7⟩ => ?_
      have fin : ∀ {σ' : L2.St} {s' : Shared} {H' : Hp}, Inv B (pins ++ pinsAt fp s5.heap) σ' H' s' → wipe σ' vs = wipe σ vs → Nx1 H' → ∃ m', m' < m ∧ ∃ j H', Inv B pins (wipe σ vs) H' s' ∧ tn j s'.heap ∧ (∀ b ∈ fp, H' b = none) ∧ W j m' H' := fun {σ' s' H'} I' hw nx => by
        obtain ⟨m', hm, w'⟩ := hNx H' nx
        have pin' : ∀ b ∈ fp, ∀ o, s5.heap.get? b = some o → s'.heap.get? b = some o ∧ H' b = none := fun b hb o e =>
          let z := I'.pin (b, o) (List.mem_append_right _ (List.mem_append_right _ (mem_pinsAt hb e)))
          ⟨z.1, z.2.1⟩
        obtain ⟨k1, k2⟩ := wipe_know hw
        refine ⟨m', hm, j + 1, H', I'.unpinned.weak k1 k2, T.keep _ _ _ st5 fun b hb o e => (pin' b hb o e).1, fun b hb => ?_, w'⟩
        obtain ⟨o, e, _⟩ := T.obj _ _ st5 b hb
        exact (pin' b hb o e).2
      cases b with
      | false =>
        simp only [Bool.false_eq_true, if_false] at q7 ⊢
        exact fin I7 hw6 q7
      | true =>
        simp only [if_true] at q7 ⊢
        intro ag' Q' E' k'
        refine hb.run _ s7 σ6 H7 D Nx1 ag' Q' E' I7 q7 fun s8 H8 I8 nx => ?_
        obtain ⟨m', hm, z⟩ := fin I8 (wipe_sub hws hw6) nx
        exact k' m' s8 hm z
  refine codeAny_mono (compStartG hcl hgc h0g hnd loop (T.self B.A 0 _ _ _ st2 loop)) fun r s' hr => ?_
  cases r with
  | ok f =>
    obtain ⟨H', I', nx⟩ := hr
    first
      | exact wpAny_pure (k s' H' I' nx)
      | exact k s' H' I' nx
  | error e => exact hr.elim
end
end TW


set_option Elab.async false
set_option linter.all false
set_option maxRecDepth 100000
set_option maxHeartbeats 2000000
namespace TW
open PySem PySem.Spec PyProof.Rows L2
section
variable {X : Cx}
theorem lcG_core {pins : List (Addr × Obj)} {s : Shared} {σ : L2.St} {H : Hp} {Q : VK} {elt tg iter : Expr} {ifs : List Expr} {gs : List Comprehension} {scope : Scope} {own : List (Str × Nat)} {pos pos' : Pos} {wi : TI} {g : TG} {tt : TT} {tl : TTl} {ws : List Nat} {body : PySem.Env → Value → Sem Fin → Sem Fin} {use : Option (Value → Sem Unit)} {Qf : Value → Shared → Prop}
    (hc : X.calm = true) (hN : X.N.Nodup) (I : Inv X pins σ H s) (hi : PI X tg iter wi) (ok : BlkOk X.N X.env.scope scope own) (hws : ∀ i ∈ ws, i ∈ own.map (·.2))
    (hT : ∀ env it acc, compTurn (.ListComp elt (⟨tg, iter, ifs, 0⟩ :: gs) scope pos) 0 it acc env = turnF tg iter ifs it env (body env acc) (again (.compLoop (.ListComp elt (⟨tg, iter, ifs, 0⟩ :: gs) scope pos) 0 it acc env)))
    (hg : ∀ (s : Shared) (H : Hp) (C : Addr) (cl : List (Str × Addr)) (fp : List Addr), PG (X.blk s H scope (compEnvC scope cl C X.env) fp) tg g) (ht : ∀ (s : Shared) (H : Hp) (C : Addr) (cl : List (Str × Addr)) (fp : List Addr), PTs (X.blk s H scope (compEnvC scope cl C X.env) fp) ifs tt)
    (hb : ∀ (s : Shared) (H : Hp) (C : Addr) (cl : List (Str × Addr)) (fp : List Addr), PTl (X.blk s H scope (compEnvC scope cl C X.env) fp) (body (compEnvC scope cl C X.env)) ws tl) (hs : ∀ x, foldedSetIterable iter X.env x = pure x)
    (h : tLcG wi g tt tl (own.map (·.2)) σ H Q)
    (hRR : ∀ D C s' m H', Inv X pins σ H' s' → Q (.ref D) H' → s'.heap.Ns C m → FpOk X pins H' C → compPost (model X.prog X.w) X.A X.xe use Qf (.ref D) C (.ok .next) s') :
    wpAny (model X.prog X.w) X.A (comprehension (.ListComp elt (⟨tg, iter, ifs, 0⟩ :: gs) scope pos) scope X.env pos' (newList []) false (eval iter X.env) use) Qf X.xe s := by
  have hfree : ∀ y ∈ scope.names, y.2 = .free → ∃ c, X.env.cells.lookup y.1 = some c := fun y hy e => by
    rcases ok.free y hy e with k | k
    · exact I.ok.has _ (.inl k)
    · exact I.ok.has _ (.inr k)
  refine wpAny_comprehension_free (use := use) rfl hs (closure_ok hfree) ok.kind (fun y hy e => by rw [ok.uniq y hy, e])
    (thn (hi.run pins s σ H _ I h) fun xv s1 hx => thn hx fun itv s2 h2 => ?_)
  obtain ⟨it, fp, tn, J, H2, e, I2, T, st2, f2, q⟩ := h2
  subst e
  refine wpAny_newObj_type (newEnv_comp ?_) (by show 0 ≤ sizeLine; decide)
  generalize hD : s2.heap.objs.size = D
  have hDn : H2 D = none := I2.hok.fresh (Nat.le_of_eq hD)
  obtain ⟨W, ⟨m0, w0⟩, turn⟩ := q D hDn
  -- the new list
  generalize hs3 : ({ s2 with heap := s2.heap.push { cls := .type "list", data := .seq ([] : List Value).toArray } } : Shared) = s3
  have I3 : Inv X pins σ (upd H2 D (.lst [])) s3 := by
    rw [← hs3]
    refine I2.laid (t' := s2.toks) (fun b o e => Heap.get?_push_of_some _ e) (Nat.le_of_eq hD) ⟨Nat.zero_le _, [], 0, .nil, ?_⟩
    rw [← hD]
    exact Heap.get?_push_size _ rfl
  have h3 : s3.heap = s2.heap.push { cls := .type "list", data := .seq ([] : List Value).toArray } := by rw [← hs3]
  have sz : ∀ b ∈ fp, b < s2.heap.objs.size := fun b hb => by
    obtain ⟨o, e, _⟩ := T.obj _ _ st2 b hb
    exact Heap.lt_size e
  have f3 : ∀ b ∈ fp, FpOk X pins (upd H2 D (.lst [])) b ∧ b < s3.heap.objs.size := fun b hb => by
    have hlt := sz b hb
    refine ⟨⟨?_, (f2 b hb).2⟩, by rw [h3, Heap.size_push]; exact Nat.lt_succ_of_lt hlt⟩
    rw [upd_ne (by rw [← hD]; exact Nat.ne_of_lt hlt)]
    exact (f2 b hb).1
  have st3 : tn 0 s3.heap := T.keep _ _ _ st2 fun b _ o e => by rw [h3]; exact Heap.get?_push_of_some _ e
  have I4 := block_start I3 ok hN f3
  have pg := hg s3 (upd H2 D (.lst [])) s3.heap.objs.size (cellsFrom (s3.heap.objs.size + 1) scope.names (cloFrom X.env.cells scope.names [])) fp
  have pt := ht s3 (upd H2 D (.lst [])) s3.heap.objs.size (cellsFrom (s3.heap.objs.size + 1) scope.names (cloFrom X.env.cells scope.names [])) fp
  have pb := hb s3 (upd H2 D (.lst [])) s3.heap.objs.size (cellsFrom (s3.heap.objs.size + 1) scope.names (cloFrom X.env.cells scope.names [])) fp
  show codeAny _ _ (.compStart (.ListComp elt (⟨tg, iter, ifs, 0⟩ :: gs) scope pos) 0 (.ref it) (.ref D) (compEnvC scope (cellsFrom (s3.heap.objs.size + 1) scope.names (cloFrom X.env.cells scope.names [])) s3.heap.objs.size X.env)) (compPost (model X.prog X.w) X.A X.xe use Qf (.ref D) s3.heap.objs.size) { s3 with heap := pushCells (s3.heap.push { cls := .type "dict", data := .dict #[] }) scope.names }
  have nfp : ∀ b ∈ fp, (upd H2 D (.lst [])) b = none := fun b hb => (f3 b hb).1.1
  generalize hce : compEnvC scope (cellsFrom (s3.heap.objs.size + 1) scope.names (cloFrom X.env.cells scope.names [])) s3.heap.objs.size X.env = ce at I4 pg pt pb ⊢
  have cL : ce.locals = s3.heap.objs.size := by subst hce; rfl
  generalize hH3 : upd H2 D (.lst []) = H3 at I3 I4 pg pt pb w0 nfp f3
  generalize hs4 : ({ s3 with heap := pushCells (s3.heap.push { cls := .type "dict", data := .dict #[] }) scope.names } : Shared) = s4 at I4 ⊢
  have st4 : tn 0 s4.heap := T.keep _ _ _ st3 fun b _ o e => by rw [← hs4]; exact pushCells_keeps _ _ _ _ (Heap.get?_push_of_some _ e)
  have stat : ∀ {σ' : L2.St} {H' : Hp} {s' : Shared}, Inv (X.blk s3 H3 scope ce fp) [] σ' H' s' → (∀ b ∈ fp, H' b = none) → ∀ b ∈ fp, FpOk (X.blk s3 H3 scope ce fp) [] H' b := fun {σ' H' s'} I' hn b hb =>
    ⟨hn b hb, (I'.ok.exf b hb).1, I'.ok.exfs b hb, .inl hb, fun x c e => (I'.ok.exf b hb).2 x c e, fun p hp => absurd (show p ∈ ([] : List (Addr × Obj)) ++ [] from hp) (by simp)⟩
  have loop : codeAny (model X.prog X.w) X.A (.compLoop (.ListComp elt (⟨tg, iter, ifs, 0⟩ :: gs) scope pos) 0 (.ref it) (.ref D) ce) (compPost (model X.prog X.w) X.A X.xe use Qf (.ref D) s3.heap.objs.size) s4 := by
    refine compLoopG (hT ce _ _) (fun n s' => ∃ i H', Inv (X.blk s3 H3 scope ce fp) [] (wipe σ (own.map (·.2))) H' s' ∧ tn i s'.heap ∧ (∀ b ∈ fp, H' b = none) ∧ W i n H') ?_ (.inl ⟨_, _, _, _, rfl⟩) m0 ⟨0, H3, I4, st4, nfp, w0⟩
    rintro n s5 ⟨i, H5, I5, st5, n5, w5⟩
    rcases turn i n H5 w5 with ⟨stop, qq⟩ | ⟨go, Nx, hNx, step⟩
    · have td := T.done (X.blk s3 H3 scope ce fp) rfl rfl rfl hc i [] s5 _ H5 (fun _ _ => False) I5 (stat I5 n5) st5 stop
      refine thnF td fun r s6 ⟨hr, I6⟩ => ?_
      subst hr
      have I7 : Inv X pins σ H5 s6 := I3.call' (ch := fp) I6.os I6.base I6.hok I6.bare fun b hb => ⟨(f3 b hb).1.2.2.2.1, (f3 b hb).1.2.1, (f3 b hb).1.2.2.2.2.1, (f3 b hb).1.2.2.2.2.2⟩
      have nC : H5 s3.heap.objs.size = none := by
        have z : H5 ce.locals = none := I6.free
        rw [cL] at z
        exact z
      obtain ⟨m, hn, _⟩ := I6.loc
      have hn : s6.heap.Ns ce.locals m := hn
      rw [cL] at hn
      exact hRR D s3.heap.objs.size s6 m H5 I7 qq hn (I3.fpOk (Nat.le_refl _) nC)
    · have ti := T.item (X.blk s3 H3 scope ce fp) rfl rfl rfl hc i [] s5 _ H5 (fun _ _ => False) I5 (stat I5 n5) st5 go
      refine thnF ti fun r s6 ⟨u, hr, h6⟩ => ?_
      subst hr
      refine thnF h6 fun _ s7 ⟨x, H7, I7, r7, y7, st7, n7⟩ => ?_
      have I7' := I7.pinned (stat I7 n7) (T.obj _ _ st7)
      refine thnF (pg.run _ s7 _ H7 x u _ I7' r7 (step x H7 y7)) fun _ s8 ⟨σ8, H8, I8, hw8, q8⟩ => ?_
      refine thnF (pt.run _ s8 σ8 H8 _ I8 q8) fun b s9 ⟨H9, I9, q9⟩ => ?_
      have fin : ∀ {σ9 : L2.St} {s' : Shared} {H' : Hp}, Inv (X.blk s3 H3 scope ce fp) ([] ++ pinsAt fp s7.heap) σ9 H' s' → wipe σ9 (own.map (·.2)) = wipe σ (own.map (·.2)) → Nx H' → ∃ m, m < n ∧ ∃ i H', Inv (X.blk s3 H3 scope ce fp) [] (wipe σ (own.map (·.2))) H' s' ∧ tn i s'.heap ∧ (∀ b ∈ fp, H' b = none) ∧ W i m H' := fun {σ9 s' H'} I' hw nx => by
        obtain ⟨m', hm, w'⟩ := hNx H' nx
        have pin' : ∀ b ∈ fp, ∀ o, s7.heap.get? b = some o → s'.heap.get? b = some o ∧ H' b = none := fun b hb o e =>
          let z := I'.pin (b, o) (List.mem_append_right _ (List.mem_append_right _ (mem_pinsAt hb e)))
          ⟨z.1, z.2.1⟩
        obtain ⟨k1, k2⟩ := wipe_know hw
        refine ⟨m', hm, i + 1, H', (I'.unpinned (pins := [])).weak k1 k2, T.keep _ _ _ st7 fun b hb o e => (pin' b hb o e).1, fun b hb => ?_, w'⟩
        obtain ⟨o, e, _⟩ := T.obj _ _ st7 b hb
        exact (pin' b hb o e).2
      cases b with
      | false =>
        simp only [Bool.false_eq_true, if_false] at q9 ⊢
        exact fin I9 hw8 q9
      | true =>
        simp only [if_true] at q9 ⊢
        intro ag' Q' E' k'
        have pb' : PTl (X.blk s3 H3 scope ce fp) (body ce) ws tl := by
          rw [← hce]
          rw [← hce] at pb
          exact pb
        refine pb'.run _ s9 σ8 H9 D Nx ag' Q' E' I9 q9 fun s10 H10 I10 nx => ?_
        obtain ⟨m', hm, z⟩ := fin I10 (wipe_sub hws hw8) nx
        exact k' m' s10 hm z
  exact codeAny_compStart_list loop (T.self X.A 0 _ _ _ st4 loop)
/-- as a value -/
theorem pe_lcG {elt tg iter : Expr} {ifs : List Expr} {gs : List Comprehension} {scope : Scope} {own : List (Str × Nat)} {pos : Pos} {wi : TI} {g : TG} {tt : TT} {tl : TTl} {ws : List Nat} {body : PySem.Env → Value → Sem Fin → Sem Fin} (hc : X.calm = true) (hN : X.N.Nodup) (hi : PI X tg iter wi) (ok : BlkOk X.N X.env.scope scope own) (hws : ∀ i ∈ ws, i ∈ own.map (·.2))
    (hT : ∀ env it acc, compTurn (.ListComp elt (⟨tg, iter, ifs, 0⟩ :: gs) scope pos) 0 it acc env = turnF tg iter ifs it env (body env acc) (again (.compLoop (.ListComp elt (⟨tg, iter, ifs, 0⟩ :: gs) scope pos) 0 it acc env)))
    (hg : ∀ (s : Shared) (H : Hp) (C : Addr) (cl : List (Str × Addr)) (fp : List Addr), PG (X.blk s H scope (compEnvC scope cl C X.env) fp) tg g) (ht : ∀ (s : Shared) (H : Hp) (C : Addr) (cl : List (Str × Addr)) (fp : List Addr), PTs (X.blk s H scope (compEnvC scope cl C X.env) fp) ifs tt)
    (hb : ∀ (s : Shared) (H : Hp) (C : Addr) (cl : List (Str × Addr)) (fp : List Addr), PTl (X.blk s H scope (compEnvC scope cl C X.env) fp) (body (compEnvC scope cl C X.env)) ws tl) (hs : ∀ x, foldedSetIterable iter X.env x = pure x) :
    PE X (.ListComp elt (⟨tg, iter, ifs, 0⟩ :: gs) scope pos) (tLcG wi g tt tl (own.map (·.2))) := by
  refine ⟨fun pins s σ H Q I h => ?_⟩
  rw [eval_ListComp]
  refine lcG_core hc hN I hi ok hws hT hg ht hb hs h fun D C s' m H' I' q hn f => ⟨m, hn, fun h'' sb => ?_⟩
  obtain ⟨f0, f1, f2, f3, f4, f5⟩ := f
  exact ⟨.ref D, H', I'.turned (t' := s'.toks) (fun b o hb e => (sb.2 b hb).trans e) f0 f1 f3 f4 f5, rfl, q⟩
end
end TW


set_option Elab.async false
set_option linter.all false
set_option maxRecDepth 100000
set_option maxHeartbeats 2000000
namespace TW
open PySem PySem.Spec PyProof.Rows L2

/-! ### comprehensions with any number of clauses: what they compute -/
abbrev TLs (T : Type) := T → Ev → Option (T × Ev)
def tlLast (fe : Sm M) : TLs (List M) := fun acc ev => match fe ev with
  | .ok (m, ev') => if acc.length < 16777216 then some (acc ++ [m], ev') else none
  | _ => none
def loopG {T : Type} (vs : List Nat) (g : PyData → Ev → Option Ev) (tt : Sm Bool) (tl : TLs T) : List PyData → TLs T
  | [], acc, ev => some (acc, ev)
  | d :: ds, acc, ev => match g d ev with
    | none => none
    | some ev1 => match tt ev1 with
      | .ok (true, ev2) => (match tl acc ev2 with
        | some (acc', ev3) => loopG vs g tt tl ds acc' (wipeE ev3 vs)
        | none => none)
      | .ok (false, ev2) => loopG vs g tt tl ds acc (wipeE ev2 vs)
      | _ => none
def tlMid {T : Type} (vs : List Nat) (g : PyData → Ev → Option Ev) (tt : Sm Bool) (tl : TLs T) (fi : Sm (List PyData)) : TLs T := fun acc ev => match fi ev with
  | .ok (items, ev1) => loopG vs g tt tl items acc (wipeE ev1 vs)
  | _ => none
def sLgT (vs : List Nat) (g : PyData → Ev → Option Ev) (tt : Sm Bool) (tl : TLs (List M)) (items : List PyData) : Sm M := fun ev =>
  if vs.all (fun v => notMl ev[v]?) = true then (match loopG vs g tt tl items [] (wipeE ev vs) with
    | some (ms, ev') => .ok (.ml ms, restE ev ev' vs)
    | none => .no)
  else .no
def sLg (vs : List Nat) (g : PyData → Ev → Option Ev) (tt : Sm Bool) (tl : TLs (List M)) (fi : Sm (List PyData)) : Sm M := bd fi (sLgT vs g tt tl)
/-- a kind of things that a comprehension piles up -/
structure AK where
  T : Type
  P : PySem.W.Frag → (Str → Option Value) → (Addr → Prop) → Hp → Addr → T → List Addr → Prop
  keep : ∀ {K : PySem.W.Frag} {mg : Str → Option Value} {F F' : Addr → Prop} {H H' : Hp} {D : Addr} {acc : T} {R : List Addr}, P K mg F H D acc R → (∀ a, F a → F' a) → (∀ a o, F a → H a = some o → H' a = some o) → (∀ a ∈ D :: R, ∀ u, H a = some u → H' a = some u) → P K mg F' H' D acc R
  there : ∀ {K : PySem.W.Frag} {mg : Str → Option Value} {F : Addr → Prop} {H : Hp} {D : Addr} {acc : T} {R : List Addr}, P K mg F H D acc R → ∀ a ∈ D :: R, H a ≠ none
abbrev akL : AK where
  T := List M
  P := fun K mg F H D acc R => ∃ us, H D = some (.lst us) ∧ RpMs K mg F H acc us R
  keep := fun {K mg F F' H H' D acc R} h m kf kr => by
    obtain ⟨us, h1, h2⟩ := h
    exact ⟨us, kr D (List.mem_cons_self ..) _ h1, RpMs.keep m kf acc h2 fun a ha => kr a (List.mem_cons_of_mem _ ha)⟩
  there := fun {K mg F H D acc R} h a ha => by
    obtain ⟨us, h1, h2⟩ := h
    rcases List.mem_cons.mp ha with y | y
    · rw [y, h1]; exact fun w => by cases w
    · exact RpMs.there acc h2 a y
/-- the thing that is made -/
structure LAt (Ak : AK) (K : PySem.W.Frag) (mg : Str → Option Value) (W : Wl) (H : Hp) (D : Addr) (acc : Ak.T) (R : List Addr) : Prop where
  lst : Ak.P K mg W.F H D acc R
  nd : (D :: R).Nodup
  dj : ∀ a ∈ D :: R, ¬ W.F a ∧ ¬ own W a
def Qt (q : Bool) (D : Addr) (ev : Ev) (ow : Nat → List Addr) (H : Hp) (W' : Wl) (H' : Hp) : Prop := q = true → W'.ev = ev ∧ W'.ow = ow ∧ ∀ a o, a ≠ D → H a = some o → H' a = some o
def tTl (Ak : AK) (B : Cx) (q : Bool) (vs : List Nat) (f : TLs Ak.T) : TTl := fun σ H D Nx => ∃ Wb acc R, Sat B.K B.mg Wb H σ ∧ LAt Ak B.K B.mg Wb H D acc R ∧ ∃ acc' ev', f acc Wb.ev = some (acc', ev') ∧
  ∀ Wc H' R', Wc.ev = ev' → Sat B.K B.mg Wc H' (wipe σ vs) → LAt Ak B.K B.mg Wc H' D acc' R' → Stp (fun x => own Wb x ∨ x ∈ D :: R) Wb.F H (fun x => own Wc x ∨ x ∈ D :: R') Wc.F H' → Qt q D (wipeE Wb.ev vs) (wipeO Wb.ow vs) H Wc H' → Nx H'
def GTl (Ak : AK) (B : Cx) (q : Bool) (vs : List Nat) (code : Value → Sem Fin → Sem Fin) (f : TLs Ak.T) : Prop := PTl B code vs (tTl Ak B q vs f)
section
variable {Ak : AK} {K : PySem.W.Frag} {mg : Str → Option Value} {W W' : Wl} {H H' : Hp} {σ : L2.St} {D : Addr} {acc : Ak.T} {R r : List Addr}
theorem LAt.there (L : LAt Ak K mg W H D acc R) : ∀ a ∈ D :: R, H a ≠ none := Ak.there L.lst
/-- carried along behind a part that does not touch it -/
theorem LAt.keep (S : Sat K mg W H σ) (L : LAt Ak K mg W H D acc R) (st : Stp (own W) W.F H (fun x => own W' x ∨ x ∈ r) W'.F H') : LAt Ak K mg W' H' D acc R ∧ ∀ a ∈ D :: R, a ∉ r := by
  have p : ∀ a ∈ D :: R, ¬ W'.F a ∧ ¬ (own W' a ∨ a ∈ r) := fun a ha => pend st (L.there a ha) (L.dj a ha).1 (L.dj a ha).2
  exact ⟨⟨Ak.keep L.lst st.mono (S.keepF st) fun a ha u hu => st.out a u hu (L.dj a ha).2, L.nd, fun a ha => ⟨(p a ha).1, fun y => (p a ha).2 (.inl y)⟩⟩, fun a ha y => (p a ha).2 (.inr y)⟩
theorem LAt.wipe (L : LAt Ak K mg W H D acc R) (vs : List Nat) : LAt Ak K mg ⟨W.F, wipeE W.ev vs, wipeO W.ow vs⟩ H D acc R := ⟨L.lst, L.nd, fun a ha => ⟨(L.dj a ha).1, fun y => (L.dj a ha).2 (own_wipe y)⟩⟩
theorem Sat.ofWipe (S : Sat K mg W H σ) {τ : L2.St} {vs : List Nat} (e : L2.wipe σ vs = L2.wipe τ vs) : Sat K mg ⟨W.F, wipeE W.ev vs, wipeO W.ow vs⟩ H (L2.wipe τ vs) := by
  have := S.wipe vs
  rw [e] at this
  exact this
end
section
variable {B : Cx} {q : Bool} {elt : Expr} {fe : Sm M} {ft : Sm Bool} {g : PyData → Ev → Option Ev} {ts vs ws : List Nat} {Ak : AK} {tl : TLs Ak.T}
theorem gtl_last (hx : B.xe = fun _ _ => False) (he : GE B E0x q RE elt fe) : GTl akL B q [] (appF elt B.env) (tlLast fe) := by
  have h0 := ptl_last hx he
  refine ⟨fun pins s σ H D Nx ag Q E I h k => h0.run pins s σ H D Nx ag Q E I ?_ k⟩
  obtain ⟨Wb, acc, R, S, L, acc', ev', e, go⟩ := h
  refine ⟨Wb, S, ?_⟩
  unfold Run
  unfold tlLast at e
  cases hf : fe Wb.ev with
  | exc c => rw [hf] at e; cases e
  | no => rw [hf] at e; cases e
  | ok p =>
    obtain ⟨m, ev2⟩ := p
    rw [hf] at e
    have e1 : (if acc.length < 16777216 then some (acc ++ [m], ev2) else none) = some (acc', ev') := e
    by_cases hl : acc.length < 16777216
    · rw [if_pos hl] at e1
      cases e1
      intro y W4 H6 r4 e4 S4 z4 hr4 st4 q4
      obtain ⟨rm, nd4, dj4⟩ := hr4
      obtain ⟨L6, nr⟩ := L.keep S st4
      obtain ⟨us, hD6, rms6⟩ := L6.lst
      have pD := L6.dj D (List.mem_cons_self ..)
      have Dr4 := nr D (List.mem_cons_self ..)
      have DR : D ∉ R := (List.nodup_cons.mp L.nd).1
      have kD : ∀ a u, a ≠ D → H6 a = some u → (upd H6 D (.lst (us ++ [y]))) a = some u := fun a u ne e => by rw [upd_ne ne]; exact e
      refine ⟨us, hD6, by rw [RpMs.len rms6, sizeLine_eq]; exact hl, go W4 _ (R ++ r4) e4 (S4.other pD.1 pD.2) ⟨⟨_, upd_same, ?_⟩, ?_, fun a ha => ?_⟩ ?_ fun hq => ?_⟩
      · refine RpMs.keep (fun _ w => w) (fun a u f e => kD a u (fun w => pD.1 (w ▸ f)) e) _ (RpMs.snoc rms6 rm) fun a ha u e => kD a u (fun w => ?_) e
        subst w
        rcases List.mem_append.mp ha with w | w
        · exact DR w
        · exact Dr4 w
      · refine List.nodup_cons.mpr ⟨fun w => ?_, List.nodup_append.mpr ⟨(List.nodup_cons.mp L.nd).2, nd4, fun a ha b hb e => ?_⟩⟩
        · rcases List.mem_append.mp w with w | w
          · exact DR w
          · exact Dr4 w
        · subst e
          exact nr a (List.mem_cons_of_mem _ ha) hb
      · have ha' : a ∈ D :: R ∨ a ∈ r4 := by
          rcases List.mem_cons.mp ha with w | w
          · exact .inl (w ▸ List.mem_cons_self ..)
          · rcases List.mem_append.mp w with w | w
            · exact .inl (List.mem_cons_of_mem _ w)
            · exact .inr w
        rcases ha' with w | w
        · exact L6.dj a w
        · exact dj4 a w
      · refine (st4.frame (T := fun x => x ∈ D :: R)).trans ⟨fun _ w => w, fun a u e no => kD a u (fun w => no (.inr (w ▸ List.mem_cons_self ..))) e, fun _ w => .inl w, fun a w => ?_⟩
        rcases w with w | w
        · exact .inl (.inl (.inl w))
        · rcases List.mem_cons.mp w with w | w
          · exact .inl (.inr (w ▸ List.mem_cons_self ..))
          · rcases List.mem_append.mp w with w | w
            · exact .inl (.inr (List.mem_cons_of_mem _ w))
            · exact .inl (.inl (.inr w))
      · obtain ⟨x1, x2, x3⟩ := q4 hq
        exact ⟨x1, x2, fun a o ne w => kD a o ne (x3 a o w)⟩
    · rw [if_neg hl] at e1
      cases e1
/-- the loop of a clause -/
theorem loop_imp {σ : L2.St} {D : Addr} {J : It} {items : List PyData} {O0 F0 F1 : Addr → Prop} {H0 H1 Ha : Hp} {Wa : Wl} {acc acc' : Ak.T} {R : List Addr} {ev' ev0 : Ev} {ow0 : Nat → List Addr} {End : Hp → Prop} (it : ItOk B.K J F1 H1 items) (hts : ∀ i ∈ ts, i ∈ vs) (hws : ∀ i ∈ ws, i ∈ vs)
    (S : Sat B.K B.mg Wa Ha (wipe σ vs)) (L : LAt Ak B.K B.mg Wa Ha D acc R) (e : loopG vs g ft tl items acc Wa.ev = some (acc', ev')) (st : Stp O0 F0 H0 (fun x => own Wa x ∨ x ∈ D :: R) Wa.F Ha) (mF : ∀ a, F1 a → Wa.F a) (kF : ∀ a o, F1 a → H1 a = some o → Ha a = some o)
    (ew : wipeE ev0 vs = ev0) (ow : wipeO ow0 vs = ow0) (qa : Qt q D ev0 ow0 H0 Wa Ha)
    (fin : ∀ Wc H' R', Wc.ev = ev' → Sat B.K B.mg Wc H' (wipe σ vs) → LAt Ak B.K B.mg Wc H' D acc' R' → Stp O0 F0 H0 (fun x => own Wc x ∨ x ∈ D :: R') Wc.F H' → Qt q D ev0 ow0 H0 Wc H' → End H') :
    ∃ Wn : Nat → Nat → Hp → Prop, (∃ m, Wn 0 m Ha) ∧ ∀ i m H, Wn i m H → (J.stop i H ∧ End H) ∨ tTurn J (tGG B.K B.mg ts g) (tG B E0x q RB ft) (tTl Ak B q ws tl) vs σ D Wn i m H := by
  refine ⟨fun n m H2 => m = items.length - n ∧ n ≤ items.length ∧ ∃ Wb acc R, Sat B.K B.mg Wb H2 (wipe σ vs) ∧ LAt Ak B.K B.mg Wb H2 D acc R ∧ loopG vs g ft tl (items.drop n) acc Wb.ev = some (acc', ev') ∧ Stp O0 F0 H0 (fun x => own Wb x ∨ x ∈ D :: R) Wb.F H2 ∧ (∀ a, F1 a → Wb.F a) ∧ (∀ a o, F1 a → H1 a = some o → H2 a = some o) ∧ Qt q D ev0 ow0 H0 Wb H2,
    ⟨items.length, by simp, Nat.zero_le _, Wa, acc, R, S, L, by simpa using e, st, mF, kF, qa⟩, ?_⟩
  rintro n m H2 ⟨rfl, hn, Wb, acc1, R1, Sb, Lb, hloop, stb, mFb, kFb, qb⟩
  by_cases hlt : n < items.length
  case neg =>
    have en : n = items.length := by omega
    subst en
    rw [List.drop_length] at hloop
    have hloop' : some (acc1, Wb.ev) = some (acc', ev') := hloop
    cases hloop'
    exact .inl ⟨it.stop Wb.F H2 mFb kFb _ (Nat.le_refl _), fin Wb H2 R1 rfl Sb Lb stb qb⟩
  have hget : items[n]? = some items[n] := List.getElem?_eq_getElem hlt
  obtain ⟨hgo, hy⟩ := it.go Wb.F H2 mFb kFb n _ hget
  rw [List.drop_eq_getElem_cons hlt] at hloop
  refine .inr ⟨hgo, fun H' => ∃ Wb acc R, Sat B.K B.mg Wb H' (wipe σ vs) ∧ LAt Ak B.K B.mg Wb H' D acc R ∧ loopG vs g ft tl (items.drop (n + 1)) acc Wb.ev = some (acc', ev') ∧ Stp O0 F0 H0 (fun x => own Wb x ∨ x ∈ D :: R) Wb.F H' ∧ (∀ a, F1 a → Wb.F a) ∧ (∀ a o, F1 a → H1 a = some o → H' a = some o) ∧ Qt q D ev0 ow0 H0 Wb H',
    fun H' ⟨Wb', acc2, R2, k⟩ => ⟨items.length - (n + 1), by omega, rfl, hlt, Wb', acc2, R2, k⟩, fun x H3 y => ?_⟩
  obtain ⟨Wy, Sy, ey, oy, ry, sty, ky, fy⟩ := Sb.yld (hy x H3 y) Wb.F rfl
  rw [loopG] at hloop
  have hloop1 := hloop
  cases hgv : g items[n] Wb.ev with
  | none => rw [hgv] at hloop1; cases hloop1
  | some ev1 =>
    rw [hgv] at hloop1
    dsimp only at hloop1
    refine ⟨Wy, items[n], Sy, ry, ev1, by rw [ey]; exact hgv, fun σ2 W2 a1 a2 a3 a4 al a5 => ?_⟩
    have wsame : wipe σ2 vs = wipe σ vs := by
      rw [← wipe_wipe σ vs]
      exact wipe_same al fun i hi => (a5 i fun y => hi (hts i y)).1
    have stA : Stp (own Wb) Wb.F H2 (own W2) W2.F H3 := by
      have := sty.less (O2 := own W2) a3
      rw [a2]
      exact this
    have evs : wipeE W2.ev vs = wipeE Wb.ev vs := by
      refine wipeE_same ?_ fun i hi => ?_
      · rw [← a4.len, al, ← Sb.len]
      · rw [a1, (a5 i fun y => hi (hts i y)).2.2, ey]
    have ows : wipeO W2.ow vs = wipeO Wb.ow vs := wipeO_same fun i hi => by rw [(a5 i fun y => hi (hts i y)).2.1, oy]
    refine ⟨wsame, W2, a4, ?_⟩
    unfold Run
    rw [a1]
    cases hft : ft ev1 with
    | exc c => rw [hft] at hloop1; cases hloop1
    | no => rw [hft] at hloop1; cases hloop1
    | ok pb =>
      obtain ⟨b, ev2⟩ := pb
      rw [hft] at hloop1
      intro v W3 H5 r3 e3 S3 z3 hr3 st3 q3
      obtain ⟨en, ev⟩ := hr3
      subst en ev
      have stB : Stp (own Wb) Wb.F H2 (fun x => own W3 x ∨ x ∈ ([] : List Addr)) W3.F H5 := stA.trans st3
      obtain ⟨L3, _⟩ := Lb.keep Sb stB
      have stB' := stB.less (O2 := own W3) fun x y => .inl y
      have keepB : ∀ {O' F' : Addr → Prop} {H' : Hp}, Stp (own Wb) Wb.F H2 O' F' H' → (∀ a, F1 a → F' a) ∧ (∀ a o, F1 a → H1 a = some o → H' a = some o) := fun st => ⟨fun a y => st.mono a (mFb a y), fun a o y e => Sb.keepF st a o (mFb a y) (kFb a o y e)⟩
      have stC := stb.trans (stB'.frame (T := fun x => x ∈ D :: R1))
      cases v with
      | false =>
        rw [if_neg Bool.false_ne_true]
        refine ⟨⟨W3.F, wipeE W3.ev vs, wipeO W3.ow vs⟩, acc1, R1, S3.ofWipe wsame, L3.wipe vs, by rw [e3]; exact hloop1, stC.less fun x y => ?_, (keepB stB').1, (keepB stB').2, fun hq => ?_⟩
        · rcases y with y | y
          · exact .inl (own_wipe y)
          · exact .inr y
        · obtain ⟨l1, l2, l3⟩ := qb hq
          obtain ⟨w1, w2, w3⟩ := q3 hq
          refine ⟨?_, ?_, fun a o ne y => w3 a o (ky a o (l3 a o ne y))⟩
          · show wipeE W3.ev vs = _
            rw [w1, evs, l1, ew]
          · show wipeO W3.ow vs = _
            rw [w2, ows, l2, ow]
      | true =>
        rw [if_pos rfl]
        have hloop2 := hloop1
        dsimp only at hloop2
        cases htl : tl acc1 ev2 with
        | none => rw [htl] at hloop2; cases hloop2
        | some pm =>
          obtain ⟨acc2, ev3⟩ := pm
          rw [htl] at hloop2
          refine ⟨W3, acc1, R1, S3, L3, acc2, ev3, by rw [e3]; exact htl, fun W4 H6 R4 e4 S4 L4 st4 q4 => ?_⟩
          have stD := stC.trans st4
          have w4 : wipe (wipe σ2 ws) vs = wipe σ vs := wipe_sub hws wsame
          have st5 : Stp (own Wb) Wb.F H2 (fun x => own W4 x ∨ x ∈ D :: R4) W4.F H6 → True := fun _ => trivial
          refine ⟨⟨W4.F, wipeE W4.ev vs, wipeO W4.ow vs⟩, acc2, R4, S4.ofWipe w4, L4.wipe vs, by rw [e4]; exact hloop2, stD.less fun x y => ?_, fun a y => st4.mono a ((keepB stB').1 a y), fun a o y e => ?_, fun hq => ?_⟩
          · rcases y with y | y
            · exact .inl (own_wipe y)
            · exact .inr y
          · refine st4.out a o ((keepB stB').2 a o y e) fun z => ?_
            have f3 := (keepB stB').1 a y
            rcases z with ⟨i, z⟩ | z
            · exact S3.nf i a z f3
            · exact (L3.dj a z).1 f3
          · obtain ⟨l1, l2, l3⟩ := qb hq
            obtain ⟨w1, w2, w3⟩ := q3 hq
            obtain ⟨x1, x2, x3⟩ := q4 hq
            refine ⟨?_, ?_, fun a o ne w => x3 a o ne (w3 a o (ky a o (l3 a o ne w)))⟩
            · show wipeE W4.ev vs = _
              rw [x1, w1, wipeE_same (vs := vs) (b := W2.ev) (wipeE_len _ _) fun i hi => wipeE_out fun z => hi (hws i z), evs, l1, ew]
            · show wipeO W4.ow vs = _
              rw [x2, w2, wipeO_same (vs := vs) (b := W2.ow) fun i hi => wipeO_out fun z => hi (hws i z), ows, l2, ow]
theorem wipeE_idem (ev : Ev) (vs : List Nat) : wipeE (wipeE ev vs) vs = wipeE ev vs := wipeE_same (wipeE_len _ _) fun i hi => wipeE_out hi
theorem wipeO_idem (ow : Nat → List Addr) (vs : List Nat) : wipeO (wipeO ow vs) vs = wipeO ow vs := wipeO_same fun i hi => wipeO_out hi
theorem gtl_mid {nd t i : Expr} {ifs : List Expr} {n : Nat} {fi : Sm (List PyData)} {body : Value → Sem Fin → Sem Fin} {cs : List Comprehension} {gc : Comprehension} (hc : B.calm = true) (hx : B.xe = fun _ _ => False) (hnd : IsLD nd) (hcl : clausesOf nd = cs) (hgc : cs[n]? = some gc) (h0g : gc.is_async = 0)
    (hT : ∀ it acc, compTurn nd n it acc B.env = turnF t i ifs it B.env (body acc) (again (.compLoop nd n it acc B.env))) (hi : GI B E0x q t i fi) (hg : GG B ts t g) (ht : GTs B q ifs ft) (hb : GTl Ak B q ws body tl) (hset : notSet i = true) (hts : ∀ i ∈ ts, i ∈ vs) (hws : ∀ i ∈ ws, i ∈ vs) :
    GTl Ak B q vs (fun acc ag => midF nd n i B.env acc ag) (tlMid vs g ft tl fi) := by
  have h0 := ptl_mid (vs := vs) (wi := tG B E0x q RI fi) (g := tGG B.K B.mg ts g) (tt := tG B E0x q RB ft) (tl := tTl Ak B q ws tl) hc hx hnd hcl hgc h0g hT hi hg ht hb (folded_of hset _) hws
  refine ⟨fun pins s σ H D Nx ag Q E I h k => h0.run pins s σ H D Nx ag Q E I ?_ k⟩
  obtain ⟨Wb, acc, R, S, L, acc', ev', e, go⟩ := h
  refine ⟨Wb, S, ?_⟩
  unfold Run
  unfold tlMid at e
  cases hf : fi Wb.ev with
  | exc c => rw [hf] at e; cases e
  | no => rw [hf] at e; cases e
  | ok p =>
    obtain ⟨items, ev1⟩ := p
    rw [hf] at e
    intro J W1 H1 r1 e1 S1 z1 hr1 st1 q1
    obtain ⟨en, it⟩ := hr1
    subst en
    obtain ⟨L1, _⟩ := L.keep S st1
    have st1' := st1.less (O2 := own W1) fun x y => .inl y
    refine loop_imp (ev0 := wipeE Wb.ev vs) (ow0 := wipeO Wb.ow vs) (O0 := fun x => own Wb x ∨ x ∈ D :: R) (F0 := Wb.F) (H0 := H) it hts hws (S1.wipe vs) (L1.wipe vs) (by rw [← e1] at e; exact e) ((st1'.frame (T := fun x => x ∈ D :: R)).less fun x y => ?_) (fun a y => y) (fun a o _ y => y) (wipeE_idem _ _) (wipeO_idem _ _) (fun hq => ?_) fun Wc H' R' b1 b2 b3 b4 b5 => go Wc H' R' b1 b2 b3 b4 b5
    · rcases y with y | y
      · exact .inl (own_wipe y)
      · exact .inr y
    · obtain ⟨w1, w2, w3⟩ := q1 hq
      exact ⟨by show wipeE W1.ev vs = _; rw [w1], by show wipeO W1.ow vs = _; rw [w2], fun a o _ y => w3 a o y⟩
end
section
variable {X : Cx} {Ex : XK} {q : Bool} {elt tg iter : Expr} {ifs : List Expr} {gs : List Comprehension} {scope : Scope} {own' : List (Str × Nat)} {pos : Pos} {fi : Sm (List PyData)} {g : PyData → Ev → Option Ev} {ft : Sm Bool} {ts ws : List Nat} {tl : TLs (List M)} {body : PySem.Env → Value → Sem Fin → Sem Fin}
theorem lg_imp (hts : ∀ i ∈ ts, i ∈ own'.map (·.2)) (hws : ∀ i ∈ ws, i ∈ own'.map (·.2)) {σ : L2.St} {H : Hp} {Q : V → Hp → Prop} (h : tG X Ex q RE (sLg (own'.map (·.2)) g ft tl fi) σ H Q) :
    tLcG (tG X Ex q RI fi) (tGG X.K X.mg ts g) (tG X E0x q RB ft) (tTl akL X q ws tl) (own'.map (·.2)) σ H (fun v H' => SzOk H' → Q v H') := by
  generalize hvs : own'.map (·.2) = vs at h hts hws ⊢
  refine tG.first (R := RI) h fun items J W H1 r S z1 hr k => ?_
  have k := k hr.1
  have it := hr.2
  intro D hD
  by_cases hv : vs.all (fun v => notMl W.ev[v]?) = true
  case neg => exact (no_of k (by unfold sLgT; rw [if_neg hv])).elim
  cases hl : loopG vs g ft tl items [] (wipeE W.ev vs) with
  | none => exact (no_of k (by unfold sLgT; rw [if_pos hv, hl])).elim
  | some p =>
    obtain ⟨ms, evE⟩ := p
    have nD : ¬ W.F D ∧ ¬ own W D := ⟨fun y => S.ft _ y hD, fun y => S.ownT y hD⟩
    refine loop_imp (Ak := akL) (B := X) (ev0 := wipeE W.ev vs) (ow0 := wipeO W.ow vs) (O0 := own W) (F0 := W.F) (H0 := H1) (Wa := ⟨W.F, wipeE W.ev vs, wipeO W.ow vs⟩) (acc := []) (R := []) it hts hws ((S.wipe vs).grow hD) ⟨⟨[], upd_same, rfl, rfl⟩, by simp, fun a ha => ?_⟩ hl ⟨fun _ y => y, fun a u y _ => keep_upd hD a u y, fun _ y => .inl y, fun a y => ?_⟩ (fun a y => y) (fun a o _ y => keep_upd hD a o y) (wipeE_idem _ _) (wipeO_idem _ _) (fun hq => ⟨rfl, rfl, fun a o _ y => keep_upd hD a o y⟩) fun Wc H' R' b1 b2 b3 b4 b5 z2 => ?_
    · have e : a = D := by simpa using ha
      subst e
      exact ⟨nD.1, fun y => nD.2 (own_wipe y)⟩
    · rcases y with y | y
      · exact .inl (own_wipe y)
      · have e : a = D := by simpa using y
        subst e
        exact .inr hD
    · obtain ⟨us, hD2, rms⟩ := b3.lst
      refine k.fin (a := .ml ms) (d' := restE W.ev Wc.ev vs) (by unfold sLgT; rw [if_pos hv, hl, ← b1]) (.ref D) ⟨Wc.F, restE W.ev Wc.ev vs, wipeO Wc.ow vs⟩ H' (D :: R') rfl (S.restore hv b2 b4) z2 ⟨(show RpM X.K X.mg Wc.F H' (.ml ms) (.ref D) (D :: R') from ⟨D, us, R', rfl, hD2, rfl, rms⟩), b3.nd, fun a ha => ?_⟩ (b4.less fun x y => ?_) fun hq => ?_
      · exact ⟨(b3.dj a ha).1, fun y => (b3.dj a ha).2 (own_wipe (W := ⟨Wc.F, Wc.ev, Wc.ow⟩) (vs := vs) y)⟩
      · rcases y with y | y
        · exact .inl (own_wipe (W := ⟨Wc.F, Wc.ev, Wc.ow⟩) (vs := vs) y)
        · exact .inr y
      · obtain ⟨q1, q2, q3⟩ := b5 hq
        refine ⟨by show restE W.ev Wc.ev vs = W.ev; rw [q1, restE_wipe], ?_, fun a o e => q3 a o (fun w => by subst w; rw [hD] at e; cases e) e⟩
        show wipeO Wc.ow vs = W.ow
        funext i
        by_cases hi : i ∈ vs
        · rw [wipeO_in hi]
          by_cases hs : ∃ m, W.ev[i]? = some (some m)
          · obtain ⟨m, hm⟩ := hs
            obtain ⟨v, _, h2⟩ := S.slot i m hm
            refine (h2.nil_of fun xs e => ?_).symm
            have := List.all_eq_true.mp hv i hi
            rw [hm, e] at this
            cases this
          · exact (S.nil i fun m y => hs ⟨m, y⟩).symm
        · rw [wipeO_out hi, q2, wipeO_out hi]
theorem ge_lcG (hc : X.calm = true) (hN : X.N.Nodup) (hi : GI X Ex q tg iter fi) (ok : BlkOk X.N X.env.scope scope own') (hset : notSet iter = true) (hts : ∀ i ∈ ts, i ∈ own'.map (·.2)) (hws : ∀ i ∈ ws, i ∈ own'.map (·.2))
    (hT : ∀ env it acc, compTurn (.ListComp elt (⟨tg, iter, ifs, 0⟩ :: gs) scope pos) 0 it acc env = turnF tg iter ifs it env (body env acc) (again (.compLoop (.ListComp elt (⟨tg, iter, ifs, 0⟩ :: gs) scope pos) 0 it acc env)))
    (hg : ∀ (s : Shared) (H : Hp) (C : Addr) (cl : List (Str × Addr)) (fp : List Addr), GG (X.blk s H scope (compEnvC scope cl C X.env) fp) ts tg g)
    (ht : ∀ (s : Shared) (H : Hp) (C : Addr) (cl : List (Str × Addr)) (fp : List Addr), GTs (X.blk s H scope (compEnvC scope cl C X.env) fp) q ifs ft)
    (hb : ∀ (s : Shared) (H : Hp) (C : Addr) (cl : List (Str × Addr)) (fp : List Addr), GTl akL (X.blk s H scope (compEnvC scope cl C X.env) fp) q ws (body (compEnvC scope cl C X.env)) tl) :
    GE X Ex q RE (.ListComp elt (⟨tg, iter, ifs, 0⟩ :: gs) scope pos) (sLg (own'.map (·.2)) g ft tl fi) := by
  exact pe_weak (pe_lcG (wi := tG X Ex q RI fi) (g := tGG X.K X.mg ts g) (tt := tG X E0x q RB ft) (tl := tTl akL X q ws tl) hc hN hi ok hws hT hg ht hb (folded_of hset _)) fun σ H Q z h => lg_imp hts hws h
end
end TW


set_option Elab.async false
set_option linter.all false
set_option maxRecDepth 100000
set_option maxHeartbeats 2000000
namespace TW
open PySem PySem.Spec PyProof.Rows L2
section
variable {X : Cx}
/-- name = [..] on one line, the name a local -/
theorem ps_setLcG {i : Nat} {y : Str} {py : Pos} {elt tg iter : Expr} {ifs : List Expr} {gs : List Comprehension} {scope : Scope} {own : List (Str × Nat)} {pos spos : Pos} {wi : TI} {g : TG} {tt : TT} {tl : TTl} {ws : List Nat} {body : PySem.Env → Value → Sem Fin → Sem Fin} (hc : X.calm = true) (hN : X.N.Nodup) (hy : X.N[i]? = some y) (hyl : X.env.scope.names.lookup y = some .local)
    (hsw : swapsWith (.ListComp elt (⟨tg, iter, ifs, 0⟩ :: gs) scope pos) (some (.Name y py)) spos.line X.env = pure true) (hi : PI X tg iter wi) (ok : BlkOk X.N X.env.scope scope own) (hws : ∀ i ∈ ws, i ∈ own.map (·.2))
    (hT : ∀ env it acc, compTurn (.ListComp elt (⟨tg, iter, ifs, 0⟩ :: gs) scope pos) 0 it acc env = turnF tg iter ifs it env (body env acc) (again (.compLoop (.ListComp elt (⟨tg, iter, ifs, 0⟩ :: gs) scope pos) 0 it acc env)))
    (hg : ∀ (s : Shared) (H : Hp) (C : Addr) (cl : List (Str × Addr)) (fp : List Addr), PG (X.blk s H scope (compEnvC scope cl C X.env) fp) tg g) (ht : ∀ (s : Shared) (H : Hp) (C : Addr) (cl : List (Str × Addr)) (fp : List Addr), PTs (X.blk s H scope (compEnvC scope cl C X.env) fp) ifs tt)
    (hb : ∀ (s : Shared) (H : Hp) (C : Addr) (cl : List (Str × Addr)) (fp : List Addr), PTl (X.blk s H scope (compEnvC scope cl C X.env) fp) (body (compEnvC scope cl C X.env)) ws tl) (hs : ∀ x, foldedSetIterable iter X.env x = pure x) :
    PS X (.Assign [.Name y py] (.ListComp elt (⟨tg, iter, ifs, 0⟩ :: gs) scope pos) spos) (tAsg (tLcG wi g tt tl (own.map (·.2))) (gName i)) := by
  refine ⟨fun pins s σ H D I h => ?_⟩
  rw [exec_Assign_Name_used _ _ _ _ hsw]
  refine wpAny_bind (wpAny_standAt (wpAny_bind ?_))
  show wpAny _ X.A (do let _ ← comprehension (.ListComp elt (⟨tg, iter, ifs, 0⟩ :: gs) scope pos) scope X.env (firstIterPos (⟨tg, iter, ifs, 0⟩ :: gs) pos) (newList []) false (eval iter X.env) (some (assign (.Name y py) X.env))) _ _ s
  have h : tLcG wi g tt tl (own.map (·.2)) σ H (fun x H1 => gName i x σ H1 D.nx) := h
  refine wpAny_bind (thn (lcG_core (Qf := fun _ s' => SP X pins D .next s') hc hN I hi ok hws hT hg ht hb hs h fun L C s' m H' I' q hn f => ?_) fun _ s' hq => wpAny_pure (wpAny_pure hq))
  show wpAny _ _ (assign (.Name y py) X.env (.ref L)) _ _ _
  refine wpAny_assign_Name (store_ok2 (v := V.ref L) I' hN hy (.inl hyl) rfl (fun s2 I2 ⟨a, sb, ha⟩ => ?_) (.inr hyl))
  obtain ⟨f0, f1, f2, f3, f4, f5⟩ := f
  have haC : C ≠ a := by
    rcases ha with z | z
    · rw [z]; exact f1
    · exact fun e => f4 y a z e.symm
  refine ⟨m, hn.sameBut sb haC, fun h3 sb3 => ?_⟩
  exact ⟨_, H', I2.turned (t' := s2.toks) (fun b o hb e => (sb3.2 b hb).trans e) f0 f1 f3 f4 f5, q⟩
theorem gs_setLcG {Ex : XK} {P : List Nat} {q : Bool} {i : Nat} {y : Str} {p pos p2 : Pos} {elt tg iter : Expr} {ifs : List Expr} {gs : List Comprehension} {scope : Scope} {own' : List (Str × Nat)} {fi : Sm (List PyData)} {g : PyData → Ev → Option Ev} {ft : Sm Bool} {ts ws : List Nat} {tl : TLs (List M)} {body : PySem.Env → Value → Sem Fin → Sem Fin}
    (hc : X.calm = true) (hN : X.N.Nodup) (hy : X.N[i]? = some y) (hyl : X.env.scope.names.lookup y = some .local) (hp : i ∉ P)
    (hsw : swapsWith (.ListComp elt (⟨tg, iter, ifs, 0⟩ :: gs) scope pos) (some (.Name y p)) p2.line X.env = pure true) (hi : GI X Ex q tg iter fi) (ok : BlkOk X.N X.env.scope scope own') (hset : notSet iter = true) (hts : ∀ i ∈ ts, i ∈ own'.map (·.2)) (hws : ∀ i ∈ ws, i ∈ own'.map (·.2))
    (hT : ∀ env it acc, compTurn (.ListComp elt (⟨tg, iter, ifs, 0⟩ :: gs) scope pos) 0 it acc env = turnF tg iter ifs it env (body env acc) (again (.compLoop (.ListComp elt (⟨tg, iter, ifs, 0⟩ :: gs) scope pos) 0 it acc env)))
    (hg : ∀ (s : Shared) (H : Hp) (C : Addr) (cl : List (Str × Addr)) (fp : List Addr), GG (X.blk s H scope (compEnvC scope cl C X.env) fp) ts tg g)
    (ht : ∀ (s : Shared) (H : Hp) (C : Addr) (cl : List (Str × Addr)) (fp : List Addr), GTs (X.blk s H scope (compEnvC scope cl C X.env) fp) q ifs ft)
    (hb : ∀ (s : Shared) (H : Hp) (C : Addr) (cl : List (Str × Addr)) (fp : List Addr), GTl akL (X.blk s H scope (compEnvC scope cl C X.env) fp) q ws (body (compEnvC scope cl C X.env)) tl) :
    GS X Ex P (.Assign [.Name y p] (.ListComp elt (⟨tg, iter, ifs, 0⟩ :: gs) scope pos) p2) (sSet i (sLg (own'.map (·.2)) g ft tl fi)) := by
  refine ps_weak (ps_setLcG (wi := tG X Ex q RI fi) (g := tGG X.K X.mg ts g) (tt := tG X E0x q RB ft) (tl := tTl akL X q ws tl) hc hN hy hyl hsw hi ok hws hT hg ht hb (folded_of hset _)) fun D σ H z ⟨W, S, h⟩ => ?_
  have key : tG X Ex q RE (sLg (own'.map (·.2)) g ft tl fi) σ H (fun v H' => SzOk H' → D.nx (σ.set i (some v)) H') := by
    refine ⟨W, S, ?_⟩
    refine h.sub (W1 := W) (T := []) rfl (Stp.refl.less fun x y => y.elim id fun y => by cases y) fun m v W2 H2 r2 e2 e3 S2 z2 hr st qt => ?_
    exact fun z3 => h.set hp e3 S2 z3 hr st
  obtain ⟨W', S', m⟩ := lg_imp hts hws key
  refine ⟨W', S', m.mono fun J H1 k D' hD => ?_⟩
  obtain ⟨Wn, w0, k⟩ := k D' hD
  refine ⟨Wn, w0, fun i m H hw => ?_⟩
  rcases k i m H hw with ⟨k1, k2⟩ | k1
  · exact .inl ⟨k1, fun z3 => k2 z3 z3⟩
  · exact .inr k1
end

/-! ### ranges with a step -/
def rgC (lo c : Int) (n : Nat) : List PyData := (List.range n).map fun i : Nat => PyData.int (lo + (i : Int) * c)
theorem rgC_ok {K : PySem.W.Frag} {F : Addr → Prop} {H : Hp} {lo c : Int} {n : Nat} (hn : n ≤ 16777216) : ItOk K (Itc lo c n) F H (rgC lo c n) := by
  refine ⟨by unfold rgC; rw [List.length_map, List.length_range, sizeLine_eq]; exact hn, fun F2 H2 m kp i d hi => ?_, fun F2 H2 m kp i hi => ?_⟩
  · unfold rgC at hi
    rw [List.getElem?_map] at hi
    obtain ⟨j, h1, h2⟩ := Option.map_eq_some_iff.mp hi
    have hj : i < n ∧ j = i := by
      obtain ⟨hlt, e⟩ := List.getElem?_eq_some_iff.mp h1
      rw [List.length_range] at hlt
      rw [List.getElem_range] at e
      exact ⟨hlt, e.symm⟩
    obtain ⟨hlt, rfl⟩ := hj
    refine ⟨hlt, fun x H3 y => .inl ⟨y.1, ?_⟩⟩
    subst h2
    exact y.2
  · unfold rgC at hi
    rw [List.length_map, List.length_range] at hi
    exact hi
def sRgDn : PyData → PyData → Sm (List PyData)
  | .int i, .int j => if (-16777216 ≤ i ∧ i ≤ 16777216) ∧ -16777216 ≤ j ∧ j ≤ 16777216 ∧ i - j ≤ 16777216 then sret (rgC i (-1) (i - j).toNat) else sfail
  | _, _ => sfail
section
variable {X : Cx} {Ex : XK} {q : Bool} {tg e a b c : Expr} {pos p : Pos} {x : Str}
/-- range(a, b, -1) -/
theorem gi_rangeDn {fa fb : Sm PyData} {k : Nat} {p1 p2 : Pos} (hg : Gl X "range") (hm : X.mg "range" = none) (ha : GE X Ex q RF a fa) (hb : GE X Ex q RF b fb) (hc : GE X Ex q RF (.UnaryOp .USub (.Constant (.int 1) k p1) p2) (sret (.int (-1)))) (hs : notStar a = true) (hs2 : notStar b = true) :
    GI X Ex q tg (.Call (.Name "range" p) [a, b, .UnaryOp .USub (.Constant (.int 1) k p1) p2] [] pos) (bd fa fun d => bd fb fun e => sRgDn d e) := by
  refine pi_weak (pi_range3 hg hm (pa_cons ha (pa_cons hb (pa_cons hc pa_nil (star_cons rfl _ _)) (star_cons hs2 _ _)) (star_cons hs _ _)) (star_cons hs _ _) (by rw [star_cons hs2]; rfl)) fun σ H Q z h => ?_
  refine tG.bin (Q' := fun y y2 H1 => tG X Ex q RF (sret (.int (-1))) σ H1 fun y3 H' => ∃ (i j c : Int) (n : Nat), [y, y2, y3] = [.int i, .int j, .int c] ∧ RgC i j c n ∧ (SzOk H' → Q (Itc i c n) H')) h RF_nil fun d e y y2 W H' S z' h1 h2 k => ?_
  cases d with
  | int i =>
    cases e with
    | int j =>
      obtain ⟨c, k⟩ := ite_run (c := (-16777216 ≤ i ∧ i ≤ 16777216) ∧ -16777216 ≤ j ∧ j ≤ 16777216 ∧ i - j ≤ 16777216) k
      cases h1
      cases h2.2
      refine ⟨W, S, fun v W2 H2 r a1 a2 a3 a4 a5 a6 => ?_⟩
      cases a4.2
      refine ⟨i, j, -1, (i - j).toNat, rfl, RgC.neg (by omega) (by omega) (by omega) (by omega), fun z2 => ?_⟩
      have k2 := k.next (f := sret ()) (g := fun _ => sret (rgC i (-1) (i - j).toNat)) (W1 := W2) (H1 := H2) (a := ()) (by rw [a1]; rfl) (a5.less fun x y => .inl y) a6
      exact k2.it a2 z2 (rgC_ok (by omega))
    | _ => exact (no_run k).elim
  | _ => cases e <;> exact (no_run k).elim
end
end TW


set_option Elab.async false
set_option linter.all false
set_option maxRecDepth 100000
set_option maxHeartbeats 2000000
namespace TW
open PySem PySem.Spec PyProof.Rows L2

/-! ### repr -/
mutual
theorem noDict : ∀ d : PyData, d.plain = true → d.hasDict = false
  | .none, _ => rfl
  | .bool _, _ => rfl
  | .int _, _ => rfl
  | .str _, _ => rfl
  | .list xs, h => by
    have h' : PyData.plainAll xs = true := by simpa [PyData.plain] using h
    simpa [PyData.hasDict] using noDictAll xs h'
  | .tuple xs, h => by
    have h' : PyData.plainAll xs = true := by simpa [PyData.plain] using h
    simpa [PyData.hasDict] using noDictAll xs h'
  | .dict _, h => by simp [PyData.plain] at h
theorem noDictAll : ∀ ds : List PyData, PyData.plainAll ds = true → PyData.hasDictAll ds = false
  | [], _ => rfl
  | d :: ds, h => by
    have h' : d.plain = true ∧ PyData.plainAll ds = true := by simpa [PyData.plainAll] using h
    simp [PyData.hasDictAll, noDict d h'.1, noDictAll ds h'.2]
end
def sRepr (d : PyData) : Sm PyData := if d.showable = true ∧ d.shown.length ≤ 16777216 ∧ d.depth ≤ 60 then sret (.str d.shown) else sfail
def rReprD (K : PySem.W.Frag) : List V → Hp → VK → Prop := fun xs H Q => ∃ F d x, xs = [x] ∧ RpW K F H d x ∧ d.showable = true ∧ d.shown.length ≤ sizeLine ∧ d.depth ≤ 60 ∧ Q (.str d.shown) H
section
variable {X : Cx} {Ex : XK} {q : Bool} {e a b tg : Expr} {pos p p2 : Pos} {fa fb : Sm PyData} {x : Str}
theorem call_reprD (hu : X.A.units + 64 < cLine) (hgd : X.A.guards = some []) : CallR X (.builtin "repr") (rReprD X.K) := by
  intro pins s σ H xs us Q I r h
  obtain ⟨F, d, x, rfl, hd, h1, h2, h3, k⟩ := h
  obtain ⟨u, rfl, r1⟩ := vals1 r
  have dp := hd.dp
  have pl := Dp.plain d dp
  obtain ⟨as, rd⟩ := Dp.reads I d x u dp r1
  have nd : ∀ as : List Addr, d.hasDict = true → sysModules ∉ as := fun as z => by rw [noDict d pl] at z; cases z
  cases rd with
  | none => exact PySem.P.repr_of_none ⟨.str _, H, I.tok _, ⟨_, rfl⟩, k⟩
  | bool b =>
    refine PySem.P.repr_of_bool ⟨.str _, H, I.tok _, ⟨_, rfl⟩, ?_⟩
    cases b <;> exact k
  | int i t =>
    have hi : i.natAbs.log2 < 1920 := by simpa [PyData.showable] using h1
    exact PySem.P.repr_of_int hi ⟨.str _, H, I.tok _, ⟨_, rfl⟩, k⟩
  | str y t => exact PySem.P.repr_of_str ⟨.str _, H, I.tok _, ⟨_, rfl⟩, k⟩ h2
  | list e1 e2 e3 e4 => exact repr_of_reads' (.list e1 e2 e3 e4) h1 (nd _) hgd (by omega) (fun _ _ e => e) (fun h' u tk hk => ⟨.str _, H, I.kept (t' := tk) hk, ⟨_, rfl⟩, k⟩) h2
  | tuple e1 e2 e3 e4 => exact repr_of_reads' (.tuple e1 e2 e3 e4) h1 (nd _) hgd (by omega) (fun _ _ e => e) (fun h' u tk hk => ⟨.str _, H, I.kept (t' := tk) hk, ⟨_, rfl⟩, k⟩) h2
  | dict _ _ _ _ _ => simp [PyData.plain] at pl
theorem ge_repr (hu : X.A.units + 64 < cLine) (hgd : X.A.guards = some []) (N : Bn X x (.builtin "repr")) (ha : GE X Ex q RO a fa) (hs : notStar a = true) : GE X Ex q RF (.Call (.Name x p) [a] [] pos) (bd fa sRepr) := by
  refine ge_b1 N (call_reprD hu hgd) ha hs RO_nil fun d y W H σ Q S z hr k => ?_
  obtain ⟨c, k⟩ := ite_run (c := d.showable = true ∧ d.shown.length ≤ 16777216 ∧ d.depth ≤ 60) k
  exact ⟨W.F, d, y, rfl, hr.2, c.1, by rw [sizeLine_eq]; exact c.2.1, c.2.2, fun z2 => k.doneF S z2 rfl⟩

/-! ### sum of a tuple -/
def sSumT : PyData → Sm PyData
  | .tuple xs => bd (sopt (intsOf xs)) fun ns => sret (.int ns.sum)
  | .list xs => bd (sopt (intsOf xs)) fun ns => sret (.int ns.sum)
  | _ => sfail
def rSumLT (K : PySem.W.Frag) : List V → Hp → VK → Prop := fun vs H Q => ∃ (a : Addr) (ns : List Int), vs = [V.ref a] ∧ (SqL K H a (ns.map V.int) ∨ SqT K H a (ns.map V.int)) ∧ Q (.int ns.sum) H
theorem cr_sumLT (hc : X.calm = true) : CallR X (.builtin "sum") (rSumLT X.K) := by
  intro pins s σ H vs us Q I r h
  obtain ⟨a, ns, rfl, hs, q⟩ := h
  rcases hs with hs | hs
  · exact cr_sum hc pins s σ H _ us Q I r ⟨a, ns, rfl, hs, q⟩
  · obtain ⟨its, rv, hl, _⟩ := I.tuple hs
    rw [Vals.ref1 r]
    have hi : IntsAre its ns := rv.ints
    obtain ⟨xs, hx⟩ := hi.allInts.items
    have hn : numsOf its.toArray.toList = ns := by rw [show its.toArray.toList = its from rfl, hi.numsOf]
    have hl' : s.heap.IsTuple a its.toArray := hl
    rw [hx] at hl' hn
    rw [nums_intItems] at hn
    refine PySem.W.ktm_sumG (I.ok.hd hc) hl' fun h' tk t' hk => ?_
    rw [preSum_eq, List.take_of_length_le (by simp), hn]
    exact ⟨.int _, H, I.kept hk, ⟨_, rfl⟩, q⟩
theorem ge_sumT (hcm : X.calm = true) (N : Bn X x (.builtin "sum")) (ha : GE X Ex q RO a fa) (hs : notStar a = true) : GE X Ex q RF (.Call (.Name x p) [a] [] pos) (bd fa sSumT) := by
  refine ge_b1 N (cr_sumLT hcm) ha hs RO_nil fun d y W H σ Q S z hr k => ?_
  cases d with
  | list ds =>
    obtain ⟨bs, e0, k⟩ := bd_opt k
    obtain ⟨p, vs, e1, l, r1⟩ := hr.2
    subst e1
    rw [RpL.intsOf r1 e0] at l
    exact ⟨_, _, rfl, .inl l, fun z2 => k.doneF S z2 rfl⟩
  | tuple ds =>
    obtain ⟨bs, e0, k⟩ := bd_opt k
    obtain ⟨p, vs, e1, f, l, r1⟩ := (show Rp W.F H (.tuple ds) y from hr.2)
    subst e1
    rw [RpL.intsOf r1 e0] at l
    exact ⟨_, _, rfl, .inr l.sq, fun z2 => k.doneF S z2 rfl⟩
  | _ => exact (no_run k).elim

/-! ### t.count(x) -/
def sCount : PyData → PyData → Sm PyData
  | .tuple xs, d => if min (PyData.depthAll xs) d.depth ≤ 60 then sret (.int ((xs.countP fun y => PyData.eqv y d : Nat) : Int)) else sfail
  | _, _ => sfail
def rCountD (K : PySem.W.Frag) : V → List V → Hp → VK → Prop := fun x ys H Q => ∃ F ds d y, ys = [y] ∧ RpW K F H (.tuple ds) x ∧ RpW K F H d y ∧ min (PyData.depthAll ds) d.depth ≤ 60 ∧ Q (.int ((ds.countP fun z => PyData.eqv z d : Nat) : Int)) H
theorem mt_countD (hu : X.A.units + 64 < cLine) : MtR X "tuple.count" (rCountD X.K) := by
  intro pins s σ H x xs v us Q I rx rs h
  obtain ⟨F, ds, d, y, rfl, hx, hy, hm, k⟩ := h
  obtain ⟨u, rfl, r1⟩ := vals1 rs
  obtain ⟨a, vs, e1, f, l, r2⟩ := (show Rp F H (.tuple ds) x from hx)
  subst e1
  cases rx
  obtain ⟨as, rd⟩ := Dp.reads I (.tuple ds) (.ref a) (.ref a) (Rp.dp (F := F) _ hx) rfl
  obtain ⟨bs, ry⟩ := Dp.reads I d y u hy.dp r1
  have pl : PyData.plainAll ds = true := by
    have := Dp.plain (K := X.K) (.tuple ds) (Rp.dp (F := F) _ hx)
    simpa [PyData.plain] using this
  cases rd with
  | tuple e1 e2 e3 e4 =>
    exact SeqAt.count_tuple_data ⟨_, e1, e2, _, e3⟩ e4 ry pl (Dp.plain d hy.dp) (by omega) ⟨.int _, H, I.tok _, ⟨_, rfl⟩, k⟩
/-- o.m(..) of a told tuple -/
theorem pe_bmX {o : Expr} {es : List Expr} {to : TE} {t : TA} {name : Str} {ap cpos : Pos} {id : String} {r : V → List V → Hp → VK → Prop} (slot : Slot "tuple" name id) (hty : typeOf (.builtin id) = pure (.type "method_descriptor")) (hm : MtR X id r) (ho : PE X o to) (ha : PA X (e :: es) t)
    (hbase : attributeBase o name X.env (eval o X.env) = eval o X.env)
    (hfew : ((backTo cpos (starEach (e :: es) X.env)).all (fun x => !x.1) && (backToKw cpos (keywordEach [] X.env)).all (fun x => x.1.isSome)
      && decide ((e :: es).length + ([] : List Keyword).length + (if ([] : List Keyword).isEmpty then 0 else 1) < 30)) = true)
    (hline : (ap.endLine == cpos.line) = true) (hs : starEach (e :: es) X.env = (false, eval e X.env) :: starEach es X.env) (hplain : (backTo cpos (starEach es X.env)).any (·.1) = false) :
    PE X (.Call (.Attribute o name ap) (e :: es) [] cpos) (fun σ H Q => to σ H fun x H1 => ∃ a vs, x = .ref a ∧ Tp H1 a vs ∧ t σ H1 fun xs H2 => r x xs H2 Q) := by
  refine ⟨fun pins s σ H Q I h => ?_⟩
  refine wpAny_Call_method_late hbase hfew hline rfl (thn (ho.run pins s σ H _ I h) fun v s1 ⟨x, H1, I1, r1, a, vs, ex, tp, q1⟩ => ?_)
  subst ex
  cases r1
  obtain ⟨ob, hd, e1⟩ := tp
  obtain ⟨e2, _, its, rv, ob', e3, e4, _⟩ := I1.hok a _ e1
  rw [e2] at e3
  cases e3
  refine ⟨"tuple", id, F.plainAttrs_tuple, slot, hty, ⟨ob, e2, e4⟩, fun b z => by cases z; exact ⟨ob, e2, hd⟩, ?_⟩
  have hA := ha.run cpos pins s1 σ H1 _ I1 q1
  rw [hs] at hA ⊢
  refine Calls.callWith_builtin (by show (false || (backTo cpos (starEach es X.env)).any (·.1)) = false; rw [hplain] <;> rfl) (Calls.evalArgs_plain ?_)
  exact thn hA fun us s2 ⟨vs, H2, I2, r2, q2⟩ => hm pins s2 σ H2 (.ref a) vs (.ref a) us Q I2 rfl r2 q2
def sTup (d : PyData) : Sm (List PyData) := match d with
  | .tuple xs => sret xs
  | _ => sfail
theorem ge_count {ap : Pos} (hu : X.A.units + 64 < cLine) (ha : GE X Ex q RF a fa) (hb2 : GE X Ex q RF b fb) (hs : notStar b = true) (hb : attributeBase a "count" X.env (eval a X.env) = eval a X.env) (hl : (ap.endLine == pos.line) = true)
    (hf : ((backTo pos (starEach [b] X.env)).all (fun x => !x.1) && (backToKw pos (keywordEach [] X.env)).all (fun x => x.1.isSome) && decide ([b].length + ([] : List Keyword).length + (if ([] : List Keyword).isEmpty then 0 else 1) < 30)) = true) :
    GE X Ex q RF (.Call (.Attribute a "count" ap) [b] [] pos) (bd fa fun d => bd (sTup d) fun xs => bd fb fun e => sCount (.tuple xs) e) := by
  refine pe_weak (pe_bmX F.slot_tuple_count F.type_tuple_count (mt_countD hu) ha (pa_cons hb2 pa_nil (star_cons hs _ _)) hb hf hl (star_cons hs _ _) (by rfl)) fun σ H Q z h => ?_
  refine h.first fun d x W H1 r S z1 hr k => ?_
  have k := k hr.1
  cases d with
  | tuple ds =>
    have hx := hr.2
    obtain ⟨p, vs, e1, f1, l, r1⟩ := (show Rp W.F H1 (.tuple ds) x from hx)
    refine ⟨p, vs, e1, l, W, S, ?_⟩
    have k2 : Run X.K X.mg Ex q RF σ W H1 (bd fb fun e => sCount (.tuple ds) e) Q := k
    refine k2.first fun e y W2 H2 r2 e2 S2 z2 hr2 st qt => ?_
    have en := hr2.1
    subst en
    have st' := st.less (O2 := own W2) fun x y => .inl y
    have k3 := k2.next e2 st' qt
    obtain ⟨c, k3⟩ := ite_run (c := min (PyData.depthAll ds) e.depth ≤ 60) k3
    exact ⟨W2.F, ds, e, y, rfl, (S.rp st' hx).view, hr2.2.view, c, fun z3 => k3.doneF S2 z3 rfl⟩
  | _ => exact (no_run k).elim

/-! ### slices of frozen things, the bounds loud -/
def GPq (X : Cx) (Ex : XK) (q : Bool) (e : Option Expr) (f : Sm (Option Int)) : Prop := PO X e (tG X Ex q (fun _ _ _ _ a b r => r = [] ∧ b = a) f)
theorem gpq_none : GPq X Ex q none (sret none) := by
  refine ⟨fun pins s σ H Q I ⟨W, S, h⟩ => po_none.run pins s σ H Q I ?_⟩
  exact h none W H [] rfl S (szOk_of I) ⟨rfl, rfl⟩ (Stp.refl.less fun x z => z.elim id fun y => by cases y) fun _ => .refl
theorem gpq_some (hb : GE X Ex q RF b fb) : GPq X Ex q (some b) (bd fb fun d => bd (sInt d) fun i => sret (some i)) := by
  refine ⟨fun pins s σ H Q I h => ?_⟩
  have hp := po_some hb
  refine thn (hp.run pins s σ H (fun o H' => SzOk H' → Q o H') I ?_) fun u s' ⟨o, H', I', p, k⟩ => ⟨o, H', I', p, k (szOk_of I')⟩
  refine h.first fun d x W H' r S z' hr k => ?_
  have k := k hr.1
  cases d with
  | int i =>
    cases hr.2
    exact ⟨i, rfl, fun z => k.done (r := []) S z ⟨rfl, rfl⟩ rfl⟩
  | _ => exact (no_run k).elim
theorem ge_sliceF {lo hi : Option Expr} {fl fh : Sm (Option Int)} {p2 : Pos} (ha : GE X Ex q RF a fa) (hl : GPq X Ex q lo fl) (hh : GPq X Ex q hi fh) : GE X Ex q RE (.Subscript a (.Slice lo hi none p2) pos) (bd fa fun d => bd fl fun l => bd fh fun u => sSl d l u) := by
  refine pe_weak (pe_slice (SlR.or sl_list sl_tupX) ha hl hh) fun σ H Q z h => ?_
  refine tG.bin h (fun K mg W H a v r y => y.1) fun d l x l' W H' S z' h1 h2 k => ?_
  cases h2.2
  refine ⟨W, S, k.first fun u u' W2 H2 r2 e2 S2 z2 hr2 st qt => ?_⟩
  have en := hr2.1
  subst en
  cases hr2.2
  have st' := st.less (O2 := own W2) fun x y => .inl y
  have k2 := k.next e2 st' qt
  have h3 := S.rp st' h1
  cases d with
  | list ds =>
    obtain ⟨p, vs, e1, f1, lq, r1⟩ := h3
    subst e1
    exact .inl ⟨p, vs, rfl, .inl (.inl lq), fun n hn z3 => k2.newL S2 (r1.cut _ _) hn z3⟩
  | tuple ds =>
    obtain ⟨p, vs, e1, f1, lq, r1⟩ := (show Rp W2.F H2 (.tuple ds) x from h3)
    subst e1
    refine .inr ⟨p, vs, rfl, lq.sq, fun hw z3 => ?_, fun hw n o hn ho z3 => k2.newTE S2 (r1.cut _ _) hn ho z3⟩
    have en : cutD ds l u = ds := by
      unfold cutD
      rw [← RpL.length r1, hw.1, hw.2]
      simp [RpL.length r1]
    exact k2.doneE S2 z3 (by rw [en]; exact ⟨p, vs, rfl, f1, lq, r1⟩)
  | _ => exact (no_run k2).elim
end
end TW


set_option Elab.async false
set_option linter.all false
set_option maxRecDepth 100000
set_option maxHeartbeats 2000000
namespace TW
open PySem PySem.Spec PyProof.Rows L2

/-! ### keys -/
mutual
def keyOf : PyData → Option NestedKey
  | .none => some .none
  | .bool b => some (.num (if b = true then 1 else 0))
  | .int i => some (.num i)
  | .str x => some (.text x)
  | .tuple ds => (keysOf ds).map .tup
  | .list _ => none
  | .dict _ => none
def keysOf : List PyData → Option (List NestedKey)
  | [] => some []
  | d :: ds => match keyOf d with
    | some k => (keysOf ds).map (k :: ·)
    | none => none
end
section
variable {X : Cx} {pins : List (Addr × Obj)} {σ : L2.St} {H : Hp} {s : Shared} {F : Addr → Prop}
mutual
theorem Rp.nested (I : Inv X pins σ H s) : ∀ (d : PyData) {x : V} {v : Value} {k : NestedKey}, Rp F H d x → RelV x v → keyOf d = some k → NestedIs s.heap k v
  | .none, _, _, _, h, r, e => by cases h; cases r; cases e; exact .none
  | .bool b, _, _, _, h, r, e => by cases h; cases r; cases e; exact .bool rfl
  | .int i, _, _, _, h, r, e => by cases h; obtain ⟨t, rfl⟩ := r; cases e; exact .int _ _
  | .str i, _, _, _, h, r, e => by cases h; obtain ⟨t, rfl⟩ := r; cases e; exact .text _ _
  | .tuple ds, _, _, k, h, r, e => by
    obtain ⟨a, vs, e1, f, l, rl⟩ := h
    subst e1
    cases r
    have e' : (keysOf ds).map NestedKey.tup = some k := e
    obtain ⟨ks, q1, q2⟩ := Option.map_eq_some_iff.mp e'
    subst q2
    obtain ⟨its, rv, ⟨o, ho, hc, n, hd⟩, hz⟩ := I.tuple l.sq
    exact .tup ho hc hd (RpL.nested I ds rl rv q1)
  | .list _, _, _, _, _, _, e => by cases e
  | .dict _, _, _, _, _, _, e => by cases e
theorem RpL.nested (I : Inv X pins σ H s) : ∀ (ds : List PyData) {xs : List V} {vs : List Value} {ks : List NestedKey}, RpL F H ds xs → Vals xs vs → keysOf ds = some ks → NestedAll s.heap ks vs
  | [], _, _, _, h, r, e => by cases h; cases r; cases e; exact .nil
  | d :: ds, _, _, ks, h, r, e => by
    obtain ⟨v, r', e1, h1, h2⟩ := h
    subst e1
    cases r with
    | cons r1 r2 =>
      have e' : (match keyOf d with | some k => (keysOf ds).map (k :: ·) | none => none) = some ks := e
      cases q : keyOf d with
      | none => rw [q] at e'; cases e'
      | some k =>
        rw [q] at e'
        obtain ⟨ks', q1, q2⟩ := Option.map_eq_some_iff.mp e'
        subst q2
        exact .cons (Rp.nested I d h1 r1 q) (RpL.nested I ds h2 r2 q1)
end
end

/-! ### a dict's own object -/
abbrev Ent := NestedKey × Addr × Value
def entN (w : World) (x : Ent) : DictEntry := ⟨x.1.hash w, .ref x.2.1, x.2.2⟩
def DRaw (w : World) (D : Addr) (xs : List Ent) (h : Heap) : Prop := (D == sysModules) = false ∧ ∃ o es ep, h.get? D = some o ∧ o.ExactDict ∧ o.data = .dict es ep ∧ es.toList = xs.map (entN w)
def dO (w : World) (D : Addr) (xs : List Ent) : HO := .ext (DRaw w D xs)
theorem dO_ok {P : Program} {w : World} {H : Hp} {h : Heap} {D : Addr} {xs : List Ent} (r : DRaw w D xs h) : ObjOk P w H h D (dO w D xs) :=
  ⟨r, let ⟨_, o, _, _, e, _⟩ := r; ⟨o, e⟩, fun h1 h2 r1 k => let ⟨z, o, es, ep, e, q⟩ := r1; ⟨z, o, es, ep, k _ e, q⟩⟩
/-- entries, keys and values -/
def KvR (F : Addr → Prop) (H : Hp) : List (PyData × PyData) → List Ent → Prop
  | [], xs => xs = []
  | p :: r, xs => ∃ k a v u xs', xs = (k, a, v) :: xs' ∧ keyOf p.1 = some k ∧ k.depth ≤ 8 ∧ Rp F H p.1 (.ref a) ∧ RelV u v ∧ Rp F H p.2 u ∧ KvR F H r xs'
def putD (acc : List (PyData × PyData)) (k : NestedKey) (d e : PyData) : List (PyData × PyData) :=
  if (acc.any fun p => decide (keyOf p.1 = some k)) = true then acc.map fun p => if keyOf p.1 = some k then (p.1, e) else p else acc ++ [(d, e)]
section
variable {F F' : Addr → Prop} {H H' : Hp}
theorem KvR.keep (m : ∀ a, F a → F' a) (kf : ∀ a o, F a → H a = some o → H' a = some o) : ∀ {acc : List (PyData × PyData)} {xs : List Ent}, KvR F H acc xs → KvR F' H' acc xs
  | [], _, h => h
  | p :: r, _, h => by
    obtain ⟨k, a, v, u, xs', e, h1, h2, h3, h4, h5, h6⟩ := h
    exact ⟨k, a, v, u, xs', e, h1, h2, Rp.keep m kf _ h3, h4, Rp.keep m kf _ h5, KvR.keep m kf h6⟩
theorem KvR.len : ∀ {acc : List (PyData × PyData)} {xs : List Ent}, KvR F H acc xs → xs.length = acc.length
  | [], _, h => by rw [h] <;> rfl
  | p :: r, _, h => by
    obtain ⟨k, a, v, u, xs', e, _, _, _, _, _, h6⟩ := h
    rw [e, List.length_cons, List.length_cons, KvR.len h6]
theorem KvR.any {k : NestedKey} : ∀ {acc : List (PyData × PyData)} {xs : List Ent}, KvR F H acc xs → (atKey xs k).isSome = (acc.any fun p => decide (keyOf p.1 = some k))
  | [], _, h => by rw [h] <;> rfl
  | p :: r, _, h => by
    obtain ⟨k', a, v, u, xs', e, h1, _, _, _, _, h6⟩ := h
    subst e
    have ih := KvR.any (k := k) h6
    by_cases q : k' = k
    · subst q
      simp [atKey, h1]
    · have q' : ¬ keyOf p.1 = some k := fun z => q (by rw [h1] at z; exact Option.some.inj z)
      simp only [List.any_cons, q', decide_false, Bool.false_or]
      rw [← ih]
      simp [atKey, q]
theorem KvR.app : ∀ {acc : List (PyData × PyData)} {xs : List Ent} {p : PyData × PyData} {x : Ent}, KvR F H acc xs → KvR F H [p] [x] → KvR F H (acc ++ [p]) (xs ++ [x])
  | [], _, _, _, h, h' => by rw [h]; exact h'
  | p :: r, _, _, _, h, h' => by
    obtain ⟨k, a, v, u, xs', e, h1, h2, h3, h4, h5, h6⟩ := h
    subst e
    exact ⟨k, a, v, u, _, rfl, h1, h2, h3, h4, h5, KvR.app h6 h'⟩
theorem KvR.map {k : NestedKey} {e : PyData} {v : Value} {u : V} (rv : RelV u v) (re : Rp F H e u) : ∀ {acc : List (PyData × PyData)} {xs : List Ent}, KvR F H acc xs → KvR F H (acc.map fun p => if keyOf p.1 = some k then (p.1, e) else p) (xs.map (putAt k v))
  | [], _, h => by rw [h]; rfl
  | p :: r, _, h => by
    obtain ⟨k', a, v', u', xs', e', h1, h2, h3, h4, h5, h6⟩ := h
    subst e'
    have ih := KvR.map (k := k) rv re h6
    rw [List.map_cons, List.map_cons]
    by_cases q : k' = k
    · subst q
      rw [if_pos h1]
      exact ⟨k', a, v, u, _, by simp [putAt], h1, h2, h3, rv, re, ih⟩
    · have q' : ¬ keyOf p.1 = some k := fun z => q (by rw [h1] at z; exact Option.some.inj z)
      rw [if_neg q']
      exact ⟨k', a, v', u', _, by simp [putAt, q], h1, h2, h3, h4, h5, ih⟩
theorem KvR.put {acc : List (PyData × PyData)} {xs : List Ent} {k : NestedKey} {d e : PyData} {a : Addr} {v : Value} {u : V} (h : KvR F H acc xs) (hk : keyOf d = some k) (hd : k.depth ≤ 8) (ra : Rp F H d (.ref a)) (rv : RelV u v) (re : Rp F H e u) : KvR F H (putD acc k d e) (storedH xs k a v) := by
  unfold putD storedH
  rw [← h.any]
  by_cases c : (atKey xs k).isSome = true
  · rw [if_pos c, if_pos c]
    exact h.map rv re
  · rw [if_neg c, if_neg c]
    exact h.app ⟨k, a, v, u, [], rfl, hk, hd, ra, rv, re, rfl⟩
/-- at a state -/
theorem KvR.dict {X : Cx} {pins : List (Addr × Obj)} {σ : L2.St} {s : Shared} {acc : List (PyData × PyData)} {xs : List Ent} {D : Addr} (I : Inv X pins σ H s) (hD : H D = some (dO X.w D xs)) (h : KvR F H acc xs) (nd : (xs.map (·.1)).Nodup) : (D == sysModules) = false ∧ s.heap.DictOfH (nestedKind X.prog X.w) D xs := by
  obtain ⟨⟨z, o, es, ep, e1, e2, e3, e4⟩, _⟩ := I.hok D _ hD
  refine ⟨z, o, es, ep, e1, e2, e3, e4, ?_, nd⟩
  have go : ∀ {acc : List (PyData × PyData)} {xs : List Ent}, KvR F H acc xs → ∀ x ∈ xs, (nestedKind X.prog X.w).is s.heap x.1 x.2.1 := by
    intro acc
    induction acc with
    | nil => intro xs h x hx; rw [show xs = [] from h] at hx; cases hx
    | cons p r ih =>
      intro xs h x hx
      obtain ⟨k, a, v, u, xs', e, h1, h2, h3, h4, h5, h6⟩ := h
      subst e
      rcases List.mem_cons.mp hx with y | y
      · subst y
        exact ⟨Rp.nested I _ h3 rfl h1, h2⟩
      · exact ih h6 x y
  exact go h
end
abbrev akD (w : World) : AK where
  T := List (PyData × PyData)
  P := fun K mg F H D acc R => R = [] ∧ ∃ xs, H D = some (dO w D xs) ∧ KvR F H acc xs ∧ (xs.map (·.1)).Nodup
  keep := fun {K mg F F' H H' D acc R} h m kf kr => by
    obtain ⟨e, xs, h1, h2, h3⟩ := h
    exact ⟨e, xs, kr D (List.mem_cons_self ..) _ h1, h2.keep m kf, h3⟩
  there := fun {K mg F H D acc R} h a ha => by
    obtain ⟨e, xs, h1, h2, h3⟩ := h
    subst e
    have ea : a = D := by simpa using ha
    rw [ea, h1]
    exact fun w => by cases w
/-- d[k] = v -/
theorem dset_ok {X : Cx} {pins : List (Addr × Obj)} {σ : L2.St} {H : Hp} {s : Shared} {E : Value → Shared → Prop} {F : Addr → Prop} {D a : Addr} {acc : List (PyData × PyData)} {xs : List Ent} {d : PyData} {k : NestedKey} {v : Value} {Q : Unit → Shared → Prop} (hu : X.A.units + 64 < cLine) (I : Inv X pins σ H s) (hD : H D = some (dO X.w D xs)) (h : KvR F H acc xs) (nd : (xs.map (·.1)).Nodup) (hz : acc.length < sizeLine)
    (hk : keyOf d = some k) (hd : k.depth ≤ 8) (ra : Rp F H d (.ref a)) (q : ((storedH xs k a v).map (·.1)).Nodup → ∀ s', Inv X pins σ (upd H D (dO X.w D (storedH xs k a v))) s' → Q () s') : wpAny (model X.prog X.w) X.A (dictSet D (.ref a) v) Q E s := by
  obtain ⟨z, dd⟩ := h.dict I hD nd
  refine wpAny_dictSet_heap (knd := nestedKind X.prog X.w) (by show X.A.units + 8 < cLine; omega) ⟨Rp.nested I d ra rfl hk, hd⟩ dd (fun h' dd' hs => ?_) (by rw [h.len]; exact Nat.le_of_lt hz)
  obtain ⟨o, es, ep, e1, e2, e3, e4, _, nd'⟩ := dd'
  refine q nd' _ (I.write (t' := s.toks + _) (x := D) (e := D) (by rw [hD]; exact trivial) (.inl rfl) (fun b u hb y => (hs.2 b hb).trans y) ⟨o, e1⟩ (dO_ok ⟨z, o, es, ep, e1, e2, e3, e4⟩))
def dicF (kx vx : Expr) (env : PySem.Env) (acc : Value) (ag : Sem Fin) : Sem Fin := do
  (do
    let kv ← eval kx env
    let vv ← holding [kv] (eval vx env)
    match acc with
    | .ref d => do
      standAt { kx.pos with endLine := vx.pos.endLine, endCol := vx.pos.endCol }
      holding [kv, vv] (dictSet d kv vv)
    | _ => unsupported "internal:dictcomp")
  ag
example (kx vx t0 i0 : Expr) (ifs0 : List Expr) (scope : Scope) (pos : Pos) (it acc : Value) (env : PySem.Env) :
    compTurn (.DictComp kx vx [⟨t0, i0, ifs0, 0⟩] scope pos) 0 it acc env = turnF t0 i0 ifs0 it env (dicF kx vx env acc) (again (.compLoop (.DictComp kx vx [⟨t0, i0, ifs0, 0⟩] scope pos) 0 it acc env)) := by rfl
def tlDict (fk fv : Sm PyData) : TLs (List (PyData × PyData)) := fun acc ev => match fk ev with
  | .ok (d, ev1) => (match fv ev1 with
    | .ok (e, ev2) => (match d, keyOf d with
      | .tuple _, some k => if acc.length < 16777216 ∧ k.depth ≤ 8 then some (putD acc k d e, ev2) else none
      | _, _ => none)
    | _ => none)
  | _ => none
section
variable {B : Cx} {q : Bool} {kx vx : Expr} {fk fv : Sm PyData}
theorem gtl_dict (hu : B.A.units + 64 < cLine) (hx : B.xe = fun _ _ => False) (hk : GE B E0x q RF kx fk) (hv : GE B E0x q RF vx fv) : GTl (akD B.w) B q [] (dicF kx vx B.env) (tlDict fk fv) := by
  refine ⟨fun pins s σ H D Nx ag Q E I h kont => ?_⟩
  obtain ⟨Wb, acc, R, S, L, acc', ev', e, go⟩ := h
  unfold tlDict at e
  cases hf : fk Wb.ev with
  | exc c => rw [hf] at e; cases e
  | no => rw [hf] at e; cases e
  | ok p =>
    obtain ⟨d, ev1⟩ := p
    rw [hf] at e
    dsimp only at e
    cases hf2 : fv ev1 with
    | exc c => rw [hf2] at e; cases e
    | no => rw [hf2] at e; cases e
    | ok p2 =>
      obtain ⟨u2, ev2⟩ := p2
      rw [hf2] at e
      dsimp only at e
      have ed : ∃ ds k, d = .tuple ds ∧ keyOf d = some k ∧ (acc.length < 16777216 ∧ k.depth ≤ 8) ∧ acc' = putD acc k d u2 ∧ ev' = ev2 := by
        cases d with
        | tuple ds =>
          cases hk2 : keyOf (.tuple ds) with
          | none => rw [hk2] at e; cases e
          | some k =>
            rw [hk2] at e
            dsimp only at e
            by_cases c : acc.length < 16777216 ∧ k.depth ≤ 8
            · rw [if_pos c] at e
              cases e
              exact ⟨ds, k, rfl, rfl, c, rfl, rfl⟩
            · rw [if_neg c] at e
              cases e
        | _ => cases e
      obtain ⟨ds, k, rfl, hkk, hc, rfl, rfl⟩ := ed
      unfold dicF
      have k1 := hk.run pins s σ H (fun x H1 => ∃ W1, W1.ev = ev1 ∧ Sat B.K B.mg W1 H1 σ ∧ Rp W1.F H1 (.tuple ds) x ∧ Stp (own Wb) Wb.F H (own W1) W1.F H1 ∧ (q = true → Quiet Wb W1 H H1)) I ⟨Wb, S, by
        unfold Run
        rw [hf]
        exact fun v W' H' r a1 a2 a3 a4 a5 a6 => ⟨W', a1, a2, a4.2, a5.less fun x y => .inl y, a6⟩⟩
      rw [hx] at k1
      refine wpAny_bind (wpAny_bind (thnF k1 fun kv s1 ⟨x, H1, I1, r1, W1, ew1, S1, rp1, st1, q1⟩ => ?_))
      have k2 := hv.run pins s1 σ H1 (fun x H2 => ∃ W2, W2.ev = ev' ∧ Sat B.K B.mg W2 H2 σ ∧ Rp W2.F H2 u2 x ∧ Stp (own W1) W1.F H1 (own W2) W2.F H2 ∧ (q = true → Quiet W1 W2 H1 H2)) I1 ⟨W1, S1, by
        unfold Run
        rw [ew1, hf2]
        exact fun v W' H' r a1 a2 a3 a4 a5 a6 => ⟨W', a1, a2, a4.2, a5.less fun x y => .inl y, a6⟩⟩
      rw [hx] at k2
      refine wpAny_bind (wpAny_holding (thnF k2 fun vv s2 ⟨y, H2, I2, r2, W2, ew2, S2, rp2, st2, q2⟩ => ?_))
      have rpk := S1.rp st2 rp1
      obtain ⟨a, vs, ex, fa, tp, rl⟩ := rpk
      subst ex
      cases r1
      have st := st1.trans st2
      obtain ⟨L2', _⟩ := L.keep (r := []) (W' := W2) (H' := H2) S (st.less fun x y => y.elim id fun y => by cases y)
      obtain ⟨eR, xs, hD, kv, nd⟩ := L2'.lst
      subst eR
      refine wpAny_bind (wpAny_standAt (wpAny_holding (dset_ok (X := B) hu I2 hD kv nd (by rw [sizeLine_eq]; exact hc.1) hkk hc.2 ⟨a, vs, rfl, fa, tp, rl⟩ fun nd' s3 I3 => ?_)))
      have pD := L2'.dj D (List.mem_cons_self ..)
      have kD : ∀ a u, a ≠ D → H2 a = some u → (upd H2 D (dO B.w D (storedH xs k a vv))) a = some u := fun a u ne e => by rw [upd_ne ne]; exact e
      refine kont s3 _ I3 (go W2 _ [] ew2 (S2.other pD.1 pD.2) ⟨⟨rfl, _, upd_same, ?_, nd'⟩, by simp, fun b hb => L2'.dj b hb⟩ ?_ fun hq => ?_)
      · refine (kv.put hkk hc.2 ⟨a, vs, rfl, fa, tp, rl⟩ r2 rp2).keep (fun _ w => w) fun b u f e => ?_
        rw [upd_ne (by intro z; subst z; exact pD.1 f)]
        exact e
      · refine (st.frame (T := fun x => x ∈ [D])).trans ⟨fun _ w => w, fun b u e no => ?_, fun _ w => .inl w, fun b w => .inl w⟩
        rw [upd_ne fun z => no (.inr (by simp [z]))]
        exact e
      · obtain ⟨x1, x2, x3⟩ := (q1 hq).trans (q2 hq)
        exact ⟨x1, x2, fun b o ne w => by rw [upd_ne ne]; exact x3 b o w⟩
end
end TW


set_option Elab.async false
set_option linter.all false
set_option maxRecDepth 100000
set_option maxHeartbeats 2000000
namespace TW
open PySem PySem.Spec PyProof.Rows L2
def tDcG (w : World) (wi : TI) (g : TG) (tt : TT) (tl : TTl) (vs : List Nat) : TE := fun σ H Q => wi σ H fun J H1 => ∀ D, H1 D = none → ∃ W : Nat → Nat → Hp → Prop, (∃ m, W 0 m (upd H1 D (dO w D []))) ∧ ∀ i m H, W i m H → (J.stop i H ∧ Q (.ref D) H) ∨ tTurn J g tt tl vs σ D W i m H
section
variable {X : Cx}
theorem dcG_core {pins : List (Addr × Obj)} {s : Shared} {σ : L2.St} {H : Hp} {Q : VK} {kx vx tg iter : Expr} {ifs : List Expr} {gs : List Comprehension} {scope : Scope} {own : List (Str × Nat)} {pos pos' : Pos} {wi : TI} {g : TG} {tt : TT} {tl : TTl} {ws : List Nat} {body : PySem.Env → Value → Sem Fin → Sem Fin} {use : Option (Value → Sem Unit)} {Qf : Value → Shared → Prop}
    (hc : X.calm = true) (hN : X.N.Nodup) (I : Inv X pins σ H s) (hi : PI X tg iter wi) (ok : BlkOk X.N X.env.scope scope own) (hws : ∀ i ∈ ws, i ∈ own.map (·.2))
    (hT : ∀ env it acc, compTurn (.DictComp kx vx (⟨tg, iter, ifs, 0⟩ :: gs) scope pos) 0 it acc env = turnF tg iter ifs it env (body env acc) (again (.compLoop (.DictComp kx vx (⟨tg, iter, ifs, 0⟩ :: gs) scope pos) 0 it acc env)))
    (hg : ∀ (s : Shared) (H : Hp) (C : Addr) (cl : List (Str × Addr)) (fp : List Addr), PG (X.blk s H scope (compEnvC scope cl C X.env) fp) tg g) (ht : ∀ (s : Shared) (H : Hp) (C : Addr) (cl : List (Str × Addr)) (fp : List Addr), PTs (X.blk s H scope (compEnvC scope cl C X.env) fp) ifs tt)
    (hb : ∀ (s : Shared) (H : Hp) (C : Addr) (cl : List (Str × Addr)) (fp : List Addr), PTl (X.blk s H scope (compEnvC scope cl C X.env) fp) (body (compEnvC scope cl C X.env)) ws tl) (hs : ∀ x, foldedSetIterable iter X.env x = pure x)
    (h : tDcG X.w wi g tt tl (own.map (·.2)) σ H Q)
    (hRR : ∀ D C s' m H', Inv X pins σ H' s' → Q (.ref D) H' → s'.heap.Ns C m → FpOk X pins H' C → compPost (model X.prog X.w) X.A X.xe use Qf (.ref D) C (.ok .next) s') :
    wpAny (model X.prog X.w) X.A (comprehension (.DictComp kx vx (⟨tg, iter, ifs, 0⟩ :: gs) scope pos) scope X.env pos' newDict false (eval iter X.env) use) Qf X.xe s := by
  have hfree : ∀ y ∈ scope.names, y.2 = .free → ∃ c, X.env.cells.lookup y.1 = some c := fun y hy e => by
    rcases ok.free y hy e with k | k
    · exact I.ok.has _ (.inl k)
    · exact I.ok.has _ (.inr k)
  refine wpAny_comprehension_free (use := use) rfl hs (closure_ok hfree) ok.kind (fun y hy e => by rw [ok.uniq y hy, e])
    (thn (hi.run pins s σ H _ I h) fun xv s1 hx => thn hx fun itv s2 h2 => ?_)
  obtain ⟨it, fp, tn, J, H2, e, I2, T, st2, f2, q⟩ := h2
  subst e
  refine wpAny_newObj_type (newEnv_comp ?_)
  generalize hD : s2.heap.objs.size = D
  have hDn : H2 D = none := I2.hok.fresh (Nat.le_of_eq hD)
  obtain ⟨W, ⟨m0, w0⟩, turn⟩ := q D hDn
  -- the new list
  generalize hs3 : ({ s2 with heap := s2.heap.push { cls := .type "dict", data := .dict #[] } } : Shared) = s3
  have I3 : Inv X pins σ (upd H2 D (dO X.w D [])) s3 := by
    rw [← hs3]
    refine I2.laid (t' := s2.toks) (fun b o e => Heap.get?_push_of_some _ e) (Nat.le_of_eq hD) (dO_ok ?_)
    rw [← hD]
    exact ⟨beq_eq_false_iff_ne.mpr (Ne.symm (Nat.ne_of_lt I2.big)), _, #[], 0, Heap.get?_push_size _ rfl, ⟨rfl, rfl, rfl⟩, rfl, rfl⟩
  have h3 : s3.heap = s2.heap.push { cls := .type "dict", data := .dict #[] } := by rw [← hs3]
  have sz : ∀ b ∈ fp, b < s2.heap.objs.size := fun b hb => by
    obtain ⟨o, e, _⟩ := T.obj _ _ st2 b hb
    exact Heap.lt_size e
  have f3 : ∀ b ∈ fp, FpOk X pins (upd H2 D (dO X.w D [])) b ∧ b < s3.heap.objs.size := fun b hb => by
    have hlt := sz b hb
    refine ⟨⟨?_, (f2 b hb).2⟩, by rw [h3, Heap.size_push]; exact Nat.lt_succ_of_lt hlt⟩
    rw [upd_ne (by rw [← hD]; exact Nat.ne_of_lt hlt)]
    exact (f2 b hb).1
  have st3 : tn 0 s3.heap := T.keep _ _ _ st2 fun b _ o e => by rw [h3]; exact Heap.get?_push_of_some _ e
  have I4 := block_start I3 ok hN f3
  have pg := hg s3 (upd H2 D (dO X.w D [])) s3.heap.objs.size (cellsFrom (s3.heap.objs.size + 1) scope.names (cloFrom X.env.cells scope.names [])) fp
  have pt := ht s3 (upd H2 D (dO X.w D [])) s3.heap.objs.size (cellsFrom (s3.heap.objs.size + 1) scope.names (cloFrom X.env.cells scope.names [])) fp
  have pb := hb s3 (upd H2 D (dO X.w D [])) s3.heap.objs.size (cellsFrom (s3.heap.objs.size + 1) scope.names (cloFrom X.env.cells scope.names [])) fp
  show codeAny _ _ (.compStart (.DictComp kx vx (⟨tg, iter, ifs, 0⟩ :: gs) scope pos) 0 (.ref it) (.ref D) (compEnvC scope (cellsFrom (s3.heap.objs.size + 1) scope.names (cloFrom X.env.cells scope.names [])) s3.heap.objs.size X.env)) (compPost (model X.prog X.w) X.A X.xe use Qf (.ref D) s3.heap.objs.size) { s3 with heap := pushCells (s3.heap.push { cls := .type "dict", data := .dict #[] }) scope.names }
  have nfp : ∀ b ∈ fp, (upd H2 D (dO X.w D [])) b = none := fun b hb => (f3 b hb).1.1
  generalize hce : compEnvC scope (cellsFrom (s3.heap.objs.size + 1) scope.names (cloFrom X.env.cells scope.names [])) s3.heap.objs.size X.env = ce at I4 pg pt pb ⊢
  have cL : ce.locals = s3.heap.objs.size := by subst hce; rfl
  generalize hH3 : upd H2 D (dO X.w D []) = H3 at I3 I4 pg pt pb w0 nfp f3
  generalize hs4 : ({ s3 with heap := pushCells (s3.heap.push { cls := .type "dict", data := .dict #[] }) scope.names } : Shared) = s4 at I4 ⊢
  have st4 : tn 0 s4.heap := T.keep _ _ _ st3 fun b _ o e => by rw [← hs4]; exact pushCells_keeps _ _ _ _ (Heap.get?_push_of_some _ e)
  have stat : ∀ {σ' : L2.St} {H' : Hp} {s' : Shared}, Inv (X.blk s3 H3 scope ce fp) [] σ' H' s' → (∀ b ∈ fp, H' b = none) → ∀ b ∈ fp, FpOk (X.blk s3 H3 scope ce fp) [] H' b := fun {σ' H' s'} I' hn b hb =>
    ⟨hn b hb, (I'.ok.exf b hb).1, I'.ok.exfs b hb, .inl hb, fun x c e => (I'.ok.exf b hb).2 x c e, fun p hp => absurd (show p ∈ ([] : List (Addr × Obj)) ++ [] from hp) (by simp)⟩
  have loop : codeAny (model X.prog X.w) X.A (.compLoop (.DictComp kx vx (⟨tg, iter, ifs, 0⟩ :: gs) scope pos) 0 (.ref it) (.ref D) ce) (compPost (model X.prog X.w) X.A X.xe use Qf (.ref D) s3.heap.objs.size) s4 := by
    refine compLoopG (hT ce _ _) (fun n s' => ∃ i H', Inv (X.blk s3 H3 scope ce fp) [] (wipe σ (own.map (·.2))) H' s' ∧ tn i s'.heap ∧ (∀ b ∈ fp, H' b = none) ∧ W i n H') ?_ (.inr ⟨_, _, _, _, _, rfl⟩) m0 ⟨0, H3, I4, st4, nfp, w0⟩
    rintro n s5 ⟨i, H5, I5, st5, n5, w5⟩
    rcases turn i n H5 w5 with ⟨stop, qq⟩ | ⟨go, Nx, hNx, step⟩
    · have td := T.done (X.blk s3 H3 scope ce fp) rfl rfl rfl hc i [] s5 _ H5 (fun _ _ => False) I5 (stat I5 n5) st5 stop
      refine thnF td fun r s6 ⟨hr, I6⟩ => ?_
      subst hr
      have I7 : Inv X pins σ H5 s6 := I3.call' (ch := fp) I6.os I6.base I6.hok I6.bare fun b hb => ⟨(f3 b hb).1.2.2.2.1, (f3 b hb).1.2.1, (f3 b hb).1.2.2.2.2.1, (f3 b hb).1.2.2.2.2.2⟩
      have nC : H5 s3.heap.objs.size = none := by
        have z : H5 ce.locals = none := I6.free
        rw [cL] at z
        exact z
      obtain ⟨m, hn, _⟩ := I6.loc
      have hn : s6.heap.Ns ce.locals m := hn
      rw [cL] at hn
      exact hRR D s3.heap.objs.size s6 m H5 I7 qq hn (I3.fpOk (Nat.le_refl _) nC)
    · have ti := T.item (X.blk s3 H3 scope ce fp) rfl rfl rfl hc i [] s5 _ H5 (fun _ _ => False) I5 (stat I5 n5) st5 go
      refine thnF ti fun r s6 ⟨u, hr, h6⟩ => ?_
      subst hr
      refine thnF h6 fun _ s7 ⟨x, H7, I7, r7, y7, st7, n7⟩ => ?_
      have I7' := I7.pinned (stat I7 n7) (T.obj _ _ st7)
      refine thnF (pg.run _ s7 _ H7 x u _ I7' r7 (step x H7 y7)) fun _ s8 ⟨σ8, H8, I8, hw8, q8⟩ => ?_
      refine thnF (pt.run _ s8 σ8 H8 _ I8 q8) fun b s9 ⟨H9, I9, q9⟩ => ?_
      have fin : ∀ {σ9 : L2.St} {s' : Shared} {H' : Hp}, Inv (X.blk s3 H3 scope ce fp) ([] ++ pinsAt fp s7.heap) σ9 H' s' → wipe σ9 (own.map (·.2)) = wipe σ (own.map (·.2)) → Nx H' → ∃ m, m < n ∧ ∃ i H', Inv (X.blk s3 H3 scope ce fp) [] (wipe σ (own.map (·.2))) H' s' ∧ tn i s'.heap ∧ (∀ b ∈ fp, H' b = none) ∧ W i m H' := fun {σ9 s' H'} I' hw nx => by
        obtain ⟨m', hm, w'⟩ := hNx H' nx
        have pin' : ∀ b ∈ fp, ∀ o, s7.heap.get? b = some o → s'.heap.get? b = some o ∧ H' b = none := fun b hb o e =>
          let z := I'.pin (b, o) (List.mem_append_right _ (List.mem_append_right _ (mem_pinsAt hb e)))
          ⟨z.1, z.2.1⟩
        obtain ⟨k1, k2⟩ := wipe_know hw
        refine ⟨m', hm, i + 1, H', (I'.unpinned (pins := [])).weak k1 k2, T.keep _ _ _ st7 fun b hb o e => (pin' b hb o e).1, fun b hb => ?_, w'⟩
        obtain ⟨o, e, _⟩ := T.obj _ _ st7 b hb
        exact (pin' b hb o e).2
      cases b with
      | false =>
        simp only [Bool.false_eq_true, if_false] at q9 ⊢
        exact fin I9 hw8 q9
      | true =>
        simp only [if_true] at q9 ⊢
        intro ag' Q' E' k'
        have pb' : PTl (X.blk s3 H3 scope ce fp) (body ce) ws tl := by
          rw [← hce]
          rw [← hce] at pb
          exact pb
        refine pb'.run _ s9 σ8 H9 D Nx ag' Q' E' I9 q9 fun s10 H10 I10 nx => ?_
        obtain ⟨m', hm, z⟩ := fin I10 (wipe_sub hws hw8) nx
        exact k' m' s10 hm z
  exact codeAny_compStart_dict loop (T.self X.A 0 _ _ _ st4 loop)
/-- as a value -/
theorem pe_dcG {kx vx tg iter : Expr} {ifs : List Expr} {gs : List Comprehension} {scope : Scope} {own : List (Str × Nat)} {pos : Pos} {wi : TI} {g : TG} {tt : TT} {tl : TTl} {ws : List Nat} {body : PySem.Env → Value → Sem Fin → Sem Fin} (hc : X.calm = true) (hN : X.N.Nodup) (hi : PI X tg iter wi) (ok : BlkOk X.N X.env.scope scope own) (hws : ∀ i ∈ ws, i ∈ own.map (·.2))
    (hT : ∀ env it acc, compTurn (.DictComp kx vx (⟨tg, iter, ifs, 0⟩ :: gs) scope pos) 0 it acc env = turnF tg iter ifs it env (body env acc) (again (.compLoop (.DictComp kx vx (⟨tg, iter, ifs, 0⟩ :: gs) scope pos) 0 it acc env)))
    (hg : ∀ (s : Shared) (H : Hp) (C : Addr) (cl : List (Str × Addr)) (fp : List Addr), PG (X.blk s H scope (compEnvC scope cl C X.env) fp) tg g) (ht : ∀ (s : Shared) (H : Hp) (C : Addr) (cl : List (Str × Addr)) (fp : List Addr), PTs (X.blk s H scope (compEnvC scope cl C X.env) fp) ifs tt)
    (hb : ∀ (s : Shared) (H : Hp) (C : Addr) (cl : List (Str × Addr)) (fp : List Addr), PTl (X.blk s H scope (compEnvC scope cl C X.env) fp) (body (compEnvC scope cl C X.env)) ws tl) (hs : ∀ x, foldedSetIterable iter X.env x = pure x) :
    PE X (.DictComp kx vx (⟨tg, iter, ifs, 0⟩ :: gs) scope pos) (tDcG X.w wi g tt tl (own.map (·.2))) := by
  refine ⟨fun pins s σ H Q I h => ?_⟩
  rw [arm_eval_DictComp]
  refine dcG_core hc hN I hi ok hws hT hg ht hb hs h fun D C s' m H' I' q hn f => ⟨m, hn, fun h'' sb => ?_⟩
  obtain ⟨f0, f1, f2, f3, f4, f5⟩ := f
  exact ⟨.ref D, H', I'.turned (t' := s'.toks) (fun b o hb e => (sb.2 b hb).trans e) f0 f1 f3 f4 f5, rfl, q⟩
end
/-! ### len({k: v for ..}) -/
def sDgT (vs : List Nat) (g : PyData → Ev → Option Ev) (tt : Sm Bool) (tl : TLs (List (PyData × PyData))) (items : List PyData) : Sm PyData := fun ev =>
  if vs.all (fun v => notMl ev[v]?) = true then (match loopG vs g tt tl items [] (wipeE ev vs) with
    | some (ms, ev') => if ms.length ≤ 16777216 then .ok (.int ms.length, restE ev ev' vs) else .no
    | none => .no)
  else .no
def sLenD (vs : List Nat) (g : PyData → Ev → Option Ev) (tt : Sm Bool) (tl : TLs (List (PyData × PyData))) (fi : Sm (List PyData)) : Sm PyData := bd fi (sDgT vs g tt tl)
def rLenX (w : World) : List V → Hp → VK → Prop := fun xs H Q => ∃ (F : Addr → Prop) (D : Addr) (es : List Ent) (acc : List (PyData × PyData)), xs = [.ref D] ∧ H D = some (dO w D es) ∧ KvR F H acc es ∧ (es.map (·.1)).Nodup ∧ acc.length ≤ 16777216 ∧ Q (.int acc.length) H
theorem call_lenX {X : Cx} : CallR X (.builtin "len") (rLenX X.w) := by
  intro pins s σ H xs us Q I r h
  obtain ⟨F, D, es, acc, rfl, hD, kv, nd, hl, q⟩ := h
  obtain ⟨u, rfl, rx⟩ := vals1 r
  cases rx
  obtain ⟨z, dd⟩ := kv.dict I hD nd
  refine call_len_dictH z dd (by rw [kv.len]; omega) ?_
  rw [kv.len]
  exact ⟨.int (acc.length : Int), H, I.tok _, ⟨_, rfl⟩, q⟩
section
variable {X : Cx} {Ex : XK} {q : Bool} {kx vx tg iter : Expr} {ifs : List Expr} {gs : List Comprehension} {scope : Scope} {own' : List (Str × Nat)} {pos pos2 p : Pos} {x : Str} {fi : Sm (List PyData)} {g : PyData → Ev → Option Ev} {ft : Sm Bool} {ts ws : List Nat} {tl : TLs (List (PyData × PyData))} {body : PySem.Env → Value → Sem Fin → Sem Fin}
theorem ge_lenD (N : Bn X x (.builtin "len")) (hc : X.calm = true) (hN : X.N.Nodup) (hi : GI X Ex q tg iter fi) (ok : BlkOk X.N X.env.scope scope own') (hset : notSet iter = true) (hts : ∀ i ∈ ts, i ∈ own'.map (·.2)) (hws : ∀ i ∈ ws, i ∈ own'.map (·.2))
    (hT : ∀ env it acc, compTurn (.DictComp kx vx (⟨tg, iter, ifs, 0⟩ :: gs) scope pos) 0 it acc env = turnF tg iter ifs it env (body env acc) (again (.compLoop (.DictComp kx vx (⟨tg, iter, ifs, 0⟩ :: gs) scope pos) 0 it acc env)))
    (hg : ∀ (s : Shared) (H : Hp) (C : Addr) (cl : List (Str × Addr)) (fp : List Addr), GG (X.blk s H scope (compEnvC scope cl C X.env) fp) ts tg g)
    (ht : ∀ (s : Shared) (H : Hp) (C : Addr) (cl : List (Str × Addr)) (fp : List Addr), GTs (X.blk s H scope (compEnvC scope cl C X.env) fp) q ifs ft)
    (hb : ∀ (s : Shared) (H : Hp) (C : Addr) (cl : List (Str × Addr)) (fp : List Addr), GTl (akD X.w) (X.blk s H scope (compEnvC scope cl C X.env) fp) q ws (body (compEnvC scope cl C X.env)) tl) :
    GE X Ex q RF (.Call (.Name x p) [.DictComp kx vx (⟨tg, iter, ifs, 0⟩ :: gs) scope pos] [] pos2) (sLenD (own'.map (·.2)) g ft tl fi) := by
  refine pe_weak (pe_callB call_lenX N.hg N.hm N.hv (pa_cons (pe_dcG (wi := tG X Ex q RI fi) (g := tGG X.K X.mg ts g) (tt := tG X E0x q RB ft) (tl := tTl (akD X.w) X q ws tl) hc hN hi ok hws hT hg ht hb (folded_of hset _)) pa_nil (star_cons rfl _ _)) N.hn N.hd (star_cons rfl _ _) (by rfl)) fun σ H Q z h => ?_
  generalize hvs : own'.map (·.2) = vs at h hts hws ⊢
  refine tG.first (R := RI) h fun items J W H1 r S z1 hr k => ?_
  have k := k hr.1
  have it := hr.2
  intro D hD
  by_cases hv : vs.all (fun v => notMl W.ev[v]?) = true
  case neg => exact (no_of k (by unfold sDgT; rw [if_neg hv])).elim
  cases hl : loopG vs g ft tl items [] (wipeE W.ev vs) with
  | none => exact (no_of k (by unfold sDgT; rw [if_pos hv, hl])).elim
  | some p =>
    obtain ⟨ms, evE⟩ := p
    have nD : ¬ W.F D ∧ ¬ own W D := ⟨fun y => S.ft _ y hD, fun y => S.ownT y hD⟩
    refine loop_imp (Ak := akD X.w) (B := X) (ev0 := wipeE W.ev vs) (ow0 := wipeO W.ow vs) (O0 := own W) (F0 := W.F) (H0 := H1) (Wa := ⟨W.F, wipeE W.ev vs, wipeO W.ow vs⟩) (acc := []) (R := []) it hts hws ((S.wipe vs).grow hD) ⟨⟨rfl, [], upd_same, rfl, List.nodup_nil⟩, by simp, fun a ha => ?_⟩ hl ⟨fun _ y => y, fun a u y _ => keep_upd hD a u y, fun _ y => .inl y, fun a y => ?_⟩ (fun a y => y) (fun a o _ y => keep_upd hD a o y) (wipeE_idem _ _) (wipeO_idem _ _) (fun hq => ⟨rfl, rfl, fun a o _ y => keep_upd hD a o y⟩) fun Wc H' R' b1 b2 b3 b4 b5 => ?_
    · have e : a = D := by simpa using ha
      subst e
      exact ⟨nD.1, fun y => nD.2 (own_wipe y)⟩
    · rcases y with y | y
      · exact .inl (own_wipe y)
      · have e : a = D := by simpa using y
        subst e
        exact .inr hD
    · obtain ⟨eR, xs, hD2, kv, nd⟩ := b3.lst
      subst eR
      by_cases hm : ms.length ≤ 16777216
      case neg => exact (no_of k (by unfold sDgT; rw [if_pos hv, hl]; exact if_neg hm)).elim
      refine ⟨Wc.F, D, xs, ms, rfl, hD2, kv, nd, hm, fun z2 => ?_⟩
      · refine k.fin (a := PyData.int ms.length) (d' := restE W.ev Wc.ev vs) (by unfold sDgT; rw [if_pos hv, hl, ← b1]; exact if_pos hm) (.int ms.length) ⟨Wc.F, restE W.ev Wc.ev vs, wipeO Wc.ow vs⟩ H' [] rfl (S.restore hv b2 b4) z2 ⟨rfl, rfl⟩ (b4.less fun x y => ?_) fun hq => ?_
        · rcases y with y | y
          · exact .inl (own_wipe (W := ⟨Wc.F, Wc.ev, Wc.ow⟩) (vs := vs) y)
          · cases y
        · obtain ⟨q1, q2, q3⟩ := b5 hq
          refine ⟨by show restE W.ev Wc.ev vs = W.ev; rw [q1, restE_wipe], ?_, fun a o e => q3 a o (fun w => by subst w; rw [hD] at e; cases e) e⟩
          show wipeO Wc.ow vs = W.ow
          funext i
          by_cases hi : i ∈ vs
          · rw [wipeO_in hi]
            by_cases hs : ∃ m, W.ev[i]? = some (some m)
            · obtain ⟨m, hm⟩ := hs
              obtain ⟨v, _, h2⟩ := S.slot i m hm
              refine (h2.nil_of fun xs e => ?_).symm
              have := List.all_eq_true.mp hv i hi
              rw [hm, e] at this
              cases this
            · exact (S.nil i fun m y => hs ⟨m, y⟩).symm
          · rw [wipeO_out hi, q2, wipeO_out hi]
end
end TW


set_option Elab.async false
set_option linter.all false
set_option maxRecDepth 100000
set_option maxHeartbeats 2000000
namespace TW
open PySem PySem.Spec PyProof.Rows L2
open AutoSeq1 (wpAny_loadPart')

/-! ### enumerate(t), t a tuple -/
theorem meets_enumerate_newT (l : Addr) (items : Array Value) (n : Nat) (dct : Option Addr) (sl : Array (Option Value)) :
    Meets (Builtin.«enumerate.__new__» ⟨[.type "enumerate", .ref l], []⟩) (fun _ R s => s.heap.get? l = some { cls := .type "tuple", dict := dct, data := .seq items n, slots := sl } ∧
      R (.ok (.ret (.ref (s.heap.push { cls := .type "tuple_iterator", data := .fields #[.ref l, .int 0 0] }).objs.size)))
        { s with heap := (s.heap.push { cls := .type "tuple_iterator", data := .fields #[.ref l, .int 0 0] }).push { cls := .type "enumerate", data := .fields #[.none, .bool false, .ref s.heap.objs.size, rawInt 0, .none, .none] } }) :=
  .of_wp fun prog w A R s h => by
    obtain ⟨hp, g, d, tk, os⟩ := s; obtain ⟨hl, h⟩ := h
    have hsub := sub_enumerate
    have hL : Heap.IsTuple (Shared.heap ⟨hp, g, d, tk, os⟩) l items := ⟨_, hl, rfl, n, rfl⟩
    wp_walk using wpAny_loadPart' hl
    refine wpAny_stack_any fun st => wpAny_pure ?_
    split
    · rename_i c _ _ _ _ _
      cases (c == Value.type "enumerate")
      · wp_walk using wpAny_loadPart' hl, wpAny_pyIter_tuple hL
        exact ⟨_, rfl, h⟩
      · wp_walk using wpAny_loadPart' hl, wpAny_pyIter_tuple hL
        exact ⟨_, rfl, h⟩
    · wp_walk using wpAny_loadPart' hl, wpAny_pyIter_tuple hL
      exact ⟨_, rfl, h⟩
section
variable {prog : Program} {w : World} {A : Around} {E : Value → Shared → Prop} {s : Shared}
theorem call_enumerate_tuple {l : Addr} {items : Array Value} {Q : Value → Shared → Prop} (hL : s.heap.IsTuple l items)
    (h : ∀ h', IsEnum h' (s.heap.objs.size + 1) s.heap.objs.size 0 .none → h'.IsTupleIter s.heap.objs.size l 0 → h'.objs.size = s.heap.objs.size + 2 →
      (∀ b o, s.heap.get? b = some o → h'.get? b = some o) → Q (.ref (s.heap.objs.size + 1)) { s with heap := h' }) :
    wpAny (model prog w) A (call (.type "enumerate") [.ref l]) Q E s := by
  obtain ⟨⟨c, dct, dt, sl⟩, hl, hc, n, hd⟩ := hL
  replace hc : c = .type "tuple" := hc
  replace hd : dt = .seq items n := hd
  subst hc hd
  refine callType_new F.called_enumerate (by decide) (F.typeCall_enumerate_1 _) (F.newCall_enumerate_1 _) (fun obj => F.args_object_init_2 obj _) F.entry_enumerate_new
    (meets_enumerate_newT l items n dct sl) ⟨hl, ?_⟩
  have hz : (s.heap.push { cls := .type "tuple_iterator", data := .fields #[.ref l, .int 0 0] }).objs.size = s.heap.objs.size + 1 := Heap.size_push ..
  show _ ∧ _
  rw [hz]
  have he : IsEnum ((s.heap.push { cls := .type "tuple_iterator", data := .fields #[.ref l, .int 0 0] }).push
      { cls := .type "enumerate", data := .fields #[.none, .bool false, .ref s.heap.objs.size, rawInt 0, .none, .none] }) (s.heap.objs.size + 1) s.heap.objs.size 0 .none := by
    have := Heap.get?_push_size (s.heap.push { cls := .type "tuple_iterator", data := .fields #[.ref l, .int 0 0] })
      (o := { cls := .type "enumerate", data := .fields #[.none, .bool false, .ref s.heap.objs.size, rawInt 0, .none, .none] }) rfl
    rw [hz] at this; exact this
  refine ⟨⟨_, he, rfl⟩, h _ he ⟨_, Heap.get?_push_of_some _ (Heap.get?_push_size _ rfl), rfl, rfl⟩ (by rw [Heap.size_push, hz]) fun b o x => Heap.get?_push_of_some _ (Heap.get?_push_of_some _ x)⟩
theorem enumT_end {e it l : Addr} {i : Nat} {items : Array Value} {old : Value} {Q : Option Value → Shared → Prop} (hh : A.handled = none)
    (he : IsEnum s.heap e it i old) (hit : s.heap.IsTupleIter it l i) (hl : s.heap.IsTuple l items) (hx : items[i]? = none)
    (hQ : ∀ h', Heap.ExtBut it s.heap h' → Q none { s with heap := h' }) : wpAny (model prog w) A (pyNext (.ref e)) Q E s := by
  have hT : s.TypeIs (.ref e) "enumerate" := ⟨_, he, rfl⟩
  unfold pyNext
  refine wpAny_bind (wpAny_attempt (wpAny_callSpecial?_slot (name := Str.ofString "__next__") hT F.slot_enumerate_next
    (wpAny_call_entry F.slot_enumerate_next hT F.entry_enumerate_next ?_ (F.args_enumerate_next_1 _))))
  show wpAny _ _ (field (.ref e) 2 >>= _) _ _ _
  refine wpAny_bind (wpAny_field he rfl (x := .ref it) rfl ?_)
  refine wpAny_bind (wpAny_nextOf_tuple_end hh hit hl hx fun h' x he' hx' => ?_)
  obtain ⟨o, ho, hc⟩ := hx'
  refine wpAny_bind (wpAny_isInstance (T := "StopIteration") (b := true) ⟨o, ho, hc⟩ isSubtype_stop ?_)
  exact wpAny_pure (hQ _ he')
end
def Itet (K : PySem.W.Frag) (a : Addr) : It :=
  ⟨fun i H => ∃ (xs : List V) (x : V), SqT K H a xs ∧ xs[i]? = some x, fun i H v H' => ∃ T x, ∃ o : Obj, v = .ref T ∧ o.dict = none ∧ H T = none ∧ H' = upd H T (.frz o (.tup [.int (i : Nat), x])) ∧ ∀ xs, SqT K H a xs → xs[i]? = some x, fun i H => ∃ xs : List V, SqT K H a xs ∧ xs.length ≤ i⟩
theorem turn_enumT {P : Program} {w : World} {K : PySem.W.Frag} {elts : List Expr} {kk : Nat} {tpos : Pos} (a e it : Addr) (hai : a ≠ it) :
    Turn P w K (.Tuple elts kk tpos) (Itet K a) [e, it] e (fun i h => (∃ old, IsEnum h e it ((i : Nat) : Int) old) ∧ h.IsTupleIter it a i ∧ e ≠ it ∧ e ≠ a) where
  mem := by simp
  obj := fun i h st b hb => by
    obtain ⟨⟨old, he⟩, ⟨o, ho, hc, hd⟩, _⟩ := st
    have e' : b = e ∨ b = it := by simpa using hb
    rcases e' with z | z
    · rw [z]; exact ⟨_, he, fun v q => nomatch q⟩
    · rw [z]; exact ⟨o, ho, fun v q => by rw [hd] at q; cases q⟩
  keep := fun i h h' st k => let ⟨⟨old, he⟩, hi, hne⟩ := st; ⟨⟨old, k e (by simp) _ he⟩, hi.at fun o q => k it (by simp) o q, hne⟩
  item := by
    intro X hP hw hK hc i pins s σ H E I hf st hg
    subst hP hw hK
    obtain ⟨⟨old, he⟩, hit, hne, hea⟩ := st
    obtain ⟨xs, x, hq, hx⟩ := hg
    obtain ⟨its, rv, p, hz⟩ := I.tuple hq
    obtain ⟨u, hu, ru⟩ := rv.get hx
    have hel : e < s.heap.objs.size := Heap.lt_size he
    have hil : it < s.heap.objs.size := by obtain ⟨_, q, _⟩ := hit; exact Heap.lt_size q
    have D := Draws.tuple (prog := X.prog) (w := X.w) (A := X.A.in1) (I.ok.hd hc) it a hai its.toArray
    refine wpAny_pyNext_enum_itemD D he ⟨hit, p⟩ (by rw [List.size_toArray]; exact (List.getElem?_eq_some_iff.mp hu).1) hne (by simp; exact ⟨hne, hea⟩) fun y h' tk hy ho st' hT hsz hk => ?_
    have hy' : u = y := by
      have : its.toArray[i]? = some y := hy
      rw [show its.toArray[i]? = its[i]? by simp, hu] at this
      exact Option.some.inj this
    subst hy'
    refine ⟨_, rfl, wpAny_letOwnedTupleGo_enum (s := { s with heap := h', toks := tk + 1 }) ho fun h'' he' sb => ?_⟩
    have hT2 : h''.get? s.heap.objs.size = some { cls := .type "tuple", data := .seq #[.int i tk, u] } := (sb.2 _ (Nat.ne_of_gt hel)).trans hT
    have new : ObjOk X.prog X.w (upd H s.heap.objs.size (.frz { cls := .type "tuple", data := .seq #[.int i tk, u] } (.tup [.int (i : Nat), x]))) h'' s.heap.objs.size (.frz { cls := .type "tuple", data := .seq #[.int i tk, u] } (.tup [.int (i : Nat), x])) :=
      ⟨hT2, by show 2 ≤ sizeLine; decide, [.int i tk, u], .cons ⟨_, rfl⟩ (.cons ru .nil), ⟨_, hT2, rfl, _, rfl⟩⟩
    have I1 : Inv X pins σ (upd H s.heap.objs.size (.frz { cls := .type "tuple", data := .seq #[.int i tk, u] } (.tup [.int (i : Nat), x]))) { s with heap := h'', toks := tk + 1 } :=
      I.turnedNew (ch := [e, it]) (fun b ob hb q => (sb.2 b (fun z => hb (by simp [z]))).trans (hk b ob (fun z => hb (by simp [z])) (fun z => hb (by simp [z])) q)) hf (Nat.le_refl _) new
    refine ⟨.ref s.heap.objs.size, _, I1, rfl, ⟨_, x, _, rfl, rfl, I.hok.fresh (Nat.le_refl _), rfl, fun ys hy => by rw [I.tuple_inj hy hq]; exact hx⟩, ⟨⟨u, ?_⟩, st'.1.at fun o q => (sb.2 it (Ne.symm hne)).trans q, hne, hea⟩, fun b hb => ?_⟩
    · have e1 : ((i + 1 : Nat) : Int) = (i : Int) + 1 := by omega
      rw [e1]; exact he'
    · have hb' : b < s.heap.objs.size := by
        have e' : b = e ∨ b = it := by simpa using hb
        rcases e' with z | z
        · rw [z]; exact hel
        · rw [z]; exact hil
      rw [upd_ne (Nat.ne_of_lt hb')]
      exact (hf b hb).1
  done := by
    intro X hP hw hK hc i pins s σ H E I hf st hg
    subst hP hw hK
    obtain ⟨⟨old, he⟩, hit, hne, hea⟩ := st
    obtain ⟨xs, hq, hx⟩ := hg
    obtain ⟨its, rv, p, hz⟩ := I.tuple hq
    obtain ⟨f0, f1, f2, f3, f4, f5⟩ := hf it (by simp)
    have hl := rv.length
    exact enumT_end (I.ok.hd hc) he hit p (by simp; omega) fun h' eb => ⟨rfl, I.turned (t' := s.toks) (fun b o hb q => eb b o hb q) f0 f1 f3 f4 f5⟩
  self := fun A i s Q E st h => let ⟨⟨_, he⟩, _⟩ := st; wpAny_pyIter_enum he h
def iEnumT (K : PySem.W.Frag) (ta : TA) : TI := fun σ H R => ta σ H fun vs H1 => ∃ a xs, vs = [.ref a] ∧ SqT K H1 a xs ∧ R (Itet K a) H1
theorem pi_enumT {X : Cx} {e : Expr} {ta : TA} {p pos tpos : Pos} {elts : List Expr} {kk : Nat} (hg : Gl X "enumerate") (hm : X.mg "enumerate" = none) (ha : PA X [e] ta) (hs : starEach [e] X.env = [(false, eval e X.env)]) :
    PI X (.Tuple elts kk tpos) (.Call (.Name "enumerate" p) [e] [] pos) (iEnumT X.K ta) := by
  refine ⟨fun pins s σ H R I h => ?_⟩
  refine Call_ (ld_blt I hg hm boot_enumerate (PyProof.Rows.callWith_type1 (thn (ha.run pos pins s σ H _ I h) fun us s1 ⟨vs, H1, I1, r1, q1⟩ => ?_) hs rfl))
  obtain ⟨a, xs, ex, hq, q⟩ := q1
  subst ex
  cases r1 with
  | cons r rr =>
    cases rr
    cases r
    obtain ⟨its, rv, p', hz⟩ := I1.tuple hq
    have hlt : a < s1.heap.objs.size := by obtain ⟨o, ho, _⟩ := p'; exact Heap.lt_size ho
    refine call_enumerate_tuple p' fun h' he hit hsz hk => wpAny_pyIter_enum he ?_
    have I2 : Inv X pins σ H1 { s1 with heap := h' } := I1.kept (t' := s1.toks) hk
    refine ⟨s1.heap.objs.size + 1, [s1.heap.objs.size + 1, s1.heap.objs.size], _, _, H1, rfl, I2, turn_enumT a (s1.heap.objs.size + 1) s1.heap.objs.size (Nat.ne_of_lt hlt), ⟨⟨.none, he⟩, hit, Nat.succ_ne_self _, Nat.ne_of_gt (Nat.lt_succ_of_lt hlt)⟩, fun b hb => ?_, q⟩
    have e' : b = s1.heap.objs.size + 1 ∨ b = s1.heap.objs.size := by simpa using hb
    have hle : s1.heap.objs.size ≤ b := by
      rcases e' with z | z
      · rw [z]; exact Nat.le_add_right _ _
      · rw [z]; exact Nat.le_refl _
    exact I1.fpOk hle (I1.hok.fresh hle)
def enI (ds : List PyData) : List PyData := ds.zipIdx.map fun p => PyData.tuple [.int (p.2 : Nat), p.1]
def sEnum : PyData → Sm (List PyData)
  | .tuple ds => sret (enI ds)
  | _ => sfail
section
variable {X : Cx} {Ex : XK} {q : Bool} {a : Expr} {pos p tpos : Pos} {elts : List Expr} {kk : Nat} {fa : Sm PyData}
theorem gi_enumT (hg : Gl X "enumerate") (hm : X.mg "enumerate" = none) (ha : GE X Ex q RF a fa) (hs : notStar a = true) : GI X Ex q (.Tuple elts kk tpos) (.Call (.Name "enumerate" p) [a] [] pos) (bd fa sEnum) := by
  refine pi_weak (pi_enumT hg hm (pa_cons ha pa_nil (star_cons hs _ _)) (star_cons hs _ _)) fun σ H Q z h => h.first fun d y W H' r S z' hr k => ?_
  have k := k hr.1
  cases d with
  | tuple ds =>
    obtain ⟨a, vs, e1, f, l, r1⟩ := (show Rp W.F H' (.tuple ds) y from hr.2)
    subst e1
    refine ⟨a, vs, rfl, l.sq, fun z2 => k.it S z2 ⟨?_, fun F2 H2 m kp i d hi => ?_, fun F2 H2 m kp i hi => ?_⟩⟩
    · unfold enI
      rw [List.length_map, List.length_zipIdx, ← RpL.length r1]
      exact z2 a vs (.inr l)
    · unfold enI at hi
      rw [List.getElem?_map] at hi
      obtain ⟨pr, h1, h2⟩ := Option.map_eq_some_iff.mp hi
      rw [List.getElem?_zipIdx] at h1
      obtain ⟨d0, h3, h4⟩ := Option.map_eq_some_iff.mp h1
      subst h4
      have hi0 : (0 + i : Nat) = i := by omega
      obtain ⟨v, g1, g2⟩ := RpL.get r1 h3
      have l2 : SqT X.K H2 a vs := (l.keep fun o y => kp a o f y).sq
      refine ⟨⟨vs, v, l2, g1⟩, fun x H3 y => .inr ?_⟩
      obtain ⟨T, x', o, e1, ho, hT, e2, e3⟩ := y
      have := e3 vs l2
      rw [g1] at this
      cases this
      refine ⟨T, _, _, o, ho, hT, e2, e1, h2.symm, ⟨_, _, rfl, ?_, ⟨_, _, rfl, Rp.keep m kp d0 g2, rfl⟩⟩⟩
      show V.int (i : Nat) = .int ((0 + i : Nat) : Int)
      rw [hi0]
    · unfold enI at hi
      rw [List.length_map, List.length_zipIdx] at hi
      exact ⟨vs, (l.keep fun o y => kp a o f y).sq, by rw [RpL.length r1]; exact hi⟩
  | _ => exact (no_run k).elim
end
end TW


set_option Elab.async false
set_option linter.all false
set_option maxRecDepth 100000
set_option maxHeartbeats 2000000
namespace TW
open PySem PySem.Spec PyProof.Rows L2
/-! ### the law's end -/
theorem law_callG {P : Program} {w : World} {K : PySem.W.Frag} {mg mb : Str → Option Value} {CX : CXT} {k : Nat} {fa a : Addr} {fd : FuncData} {x : Str} {sp : Sp} {s₁ : Shared} {vs : List Value} {ns : List Int}
    (KX : K.In s₁.heap) (hns : s₁.heap.Ns mainGlobals mg) (hb : s₁.heap.Ns builtinsNs mb) (hbb : ∀ x : Str, x ≠ "__name__" → mb x = bootBuiltins x) (hlim : s₁.heap.NoLimit) (hg : s₁.gens = #[])
    (ha : s₁.heap.get? a = some { cls := .type "list", data := .seq vs.toArray }) (hi : IntsAre vs ns) (hl : ns.length ≤ sizeLine) (hr : Room k callerA)
    (F : ∀ base : Heap, K.In base → base.Ns mainGlobals mg → FnOkG P w K mg base CX k fa fd [x] sp) (hbind : ∀ (s : Shared) (u : Value), BindsTo s fd ⟨[u], []⟩ [(x, u)])
    (hsp : ∀ H : Hp, Only H → SqL K H a (ns.map V.int) → sp [.ref a] H (fun v _ => v = .bl true) fun _ _ _ => False)
    (hCX : ∀ H e s', CX [] H s₁ (fun _ _ _ => False) e s' → False) :
    codeAny (model P w) callerA (.call (.ref fa) ⟨[.ref a], []⟩) (fun r s' => r = .ok (.ret (.bool true)) ∧ OldK s₁.heap s'.heap ∧ s'.os = s₁.os ∧ AllBare s'.gens) s₁ := by
  have rv := vals_ints hi
  have lenV := hi.length
  -- from an abstract heap in which nothing but the script may be tracked
  have core : ∀ H : Hp, Only H → SqL K H a (ns.map V.int) → HOk P w H s₁.heap → (∀ b, H b ≠ none → b = a) → (H a ≠ none → K.lookup a = none) →
      codeAny (model P w) callerA (.call (.ref fa) ⟨[.ref a], []⟩) (fun r s' => r = .ok (.ret (.bool true)) ∧ OldK s₁.heap s'.heap ∧ s'.os = s₁.os ∧ AllBare s'.gens) s₁ := by
    intro H hO hS hok hA hK
    have base_of : ∀ {b : Addr} {o : Obj}, s₁.heap.get? b = some o → H b = none → (hidT s₁.heap H).get? b = some o := fun e n => hidT_get e n
    have noA : ∀ {b : Addr} {o : Obj} {es : Array DictEntry} {ep : Nat}, s₁.heap.get? b = some o → o.data = .dict es ep → H b = none := fun {b o es ep} e d => by
      cases q : H b with
      | none => rfl
      | some u =>
        have e' : b = a := hA b (by rw [q]; simp)
        subst e'
        rw [ha] at e; cases e
        have d' : Data.seq vs.toArray _ = Data.dict es ep := d
        cases d'
    have nsK : ∀ {b : Addr} {m : Str → Option Value}, s₁.heap.Ns b m → (hidT s₁.heap H).Ns b m := fun {b m} ⟨o, es, ep, e, d, r⟩ => ⟨o, es, ep, base_of e (noA e d), d, r⟩
    have hKb : K.In (hidT s₁.heap H) := fun b o e => base_of (KX b o e) (by
      cases q : H b with
      | none => rfl
      | some u =>
        have e' : b = a := hA b (by rw [q]; simp)
        subst e'
        rw [hK (by rw [q]; simp)] at e; cases e)
    have hM : Mod K mg (hidT s₁.heap H) := ⟨hKb, nsK hns, ⟨mb, nsK hb, hbb⟩, let ⟨mc, h1, h2⟩ := hlim; ⟨mc, nsK h1, h2⟩⟩
    have e0 : Env0 P w K mg (hidT s₁.heap H) callerA [] s₁ H := ⟨rfl, hM, fun b o e => of_hidT e, Nat.le_of_eq (hidT_size _ _), trivial, fun b hb => absurd (show b ∈ ([] : List Addr) from hb) (by simp), hok, .of_eq hg⟩
    refine codeAny_mono ((F _ hKb (nsK hns)).run callerA [] s₁ H ⟨[.ref a], []⟩ [.ref a] [.ref a] _ _ hr rfl e0 (hbind s₁ (.ref a)) (.cons rfl .nil) (hsp H hO hS)) fun r s' h => ?_
    cases r with
    | error e => exact (hCX H e s' h).elim
    | ok fl =>
      cases fl with
      | next => exact False.elim h
      | brk => exact False.elim h
      | cont => exact False.elim h
      | ret u =>
        obtain ⟨v, H', os, bare, un, hok', r', q⟩ := h
        have q' : v = .bl true := q
        subst q'
        obtain rfl : u = Value.bool true := r'
        refine ⟨rfl, OldK.of_keep fun b o e => ?_, os, bare⟩
        cases q : H b with
        | none => exact un.keep b o e q (by intro z; exact absurd (show b ∈ ([] : List Addr) from z) (by simp)) (by simp)
        | some u =>
          rcases hO b with z | ⟨ob, xs, z⟩
          · rw [q] at z; cases z
          · have z2 := un.frzs b ob _ z
            obtain ⟨e1, _⟩ := hok b _ z
            obtain ⟨e2, _⟩ := hok' b _ z2
            rw [e] at e1; cases e1
            exact e2
  cases hk : K.lookup a with
  | some o =>
    -- the script is one of the module's own objects
    have e := KX a o hk
    rw [ha] at e
    cases e
    refine core (fun _ => none) (fun _ => .inl rfl) (.inr ⟨_, vs.toArray, _, hk, rfl, rfl, rfl, by rw [List.size_toArray, lenV]; exact hl, by simpa using rv⟩) (fun b u z => by have z' : (none : Option HO) = some u := z; cases z') (fun b z => absurd rfl z) fun z => absurd rfl z
  | none =>
    refine core (fun b => if b = a then some (.frz { cls := .type "list", data := .seq vs.toArray } (.lst (ns.map V.int))) else none) (fun b => ?_) (.inl (.inr ⟨{ cls := .type "list", data := .seq vs.toArray }, if_pos rfl⟩)) (fun b u z => ?_) (fun b z => ?_) fun _ => hk
    · by_cases hb : b = a
      · exact .inr ⟨_, _, if_pos hb⟩
      · exact .inl (if_neg hb)
    · by_cases hb : b = a
      · have z' := (if_pos hb).symm.trans z
        cases z'
        subst hb
        exact ⟨ha, by rw [List.length_map]; exact hl, vs, _, rv, ha⟩
      · have z' := (if_neg hb).symm.trans z
        cases z'
    · by_cases hb : b = a
      · exact hb
      · exact absurd (if_neg hb) z

theorem walk_ofG {l : PySem.W.OpenLaw} {n k : Nat} {q : Program} {loose : List Str} {XP : (Str → Option Value) → Heap → Prop} {YP : World → Heap → Prop} {d : DefRec} {CX : CXT} {x : Str}
    (hn : l.most = some n) (hn2 : n ≤ sizeLine) (hdf : d.params.defaults = []) (hr : Room k callerA)
    (F : ∀ (w : World) (mg : Str → Option Value) (fa : Addr) (h : Heap), YP w h → h.Ns mainGlobals mg → mg d.name = some (.ref fa) →
      ∃ (K : PySem.W.Frag) (fd : FuncData) (sp : Sp), K.In h ∧ (∀ (s : Shared) (u : Value), BindsTo s fd ⟨[u], []⟩ [(x, u)]) ∧
        (∀ (H : Hp) (a : Addr) (ns : List Int), ns.length ≤ n → Only H → SqL K H a (ns.map V.int) → sp [.ref a] H (fun v _ => v = .bl true) fun _ _ _ => False) ∧
        ∀ base : Heap, K.In base → base.Ns mainGlobals mg → FnOkG l.prog w K mg base CX k fa fd [x] sp)
    (hCX : ∀ (H : Hp) (s : Shared) (e : Value) (s' : Shared), CX [] H s (fun _ _ _ => False) e s' → False) :
    PySem.W.WalkO q loose XP YP l.row.toRowW d [] (fun f vs => PySem.call f vs) := by
  refine Att.attach_call hn hdf fun w s₀ s₁ mg mb fa o pm cd doc a vs ns G Y ho hd hcd hmg hobj hints hlen hg => ?_
  obtain ⟨K, fd, sp, KX, hb, hsp, hF⟩ := F w mg fa _ Y G.T.g hmg
  exact law_callG KX G.T.g G.T.b G.T.builtins G.T.nolimit hg hobj hints (Nat.le_trans hlen hn2) hr hF hb (fun H hO hS => hsp H a ns hlen hO hS) fun H e s' => hCX H s₁ e s'
/-- the law's own def: nothing is let out; the script in slot 0 -/
def spLaw (K : PySem.W.Frag) (n : Nat) : Sp := fun vs H Q E => E = E0x ∧ ∃ (a : Addr) (ns : List Int), vs = [.ref a] ∧ ns.length ≤ n ∧ SqL K H a (ns.map V.int) ∧ Only H ∧ ∀ H', Q (.bl true) H'
theorem law_of {P : Program} {w : World} {K : PySem.W.Frag} {mg : Str → Option Value} {base : Heap} {k m : Nat} {x qual : Str} {params : Arguments} {body : List Stmt} {scope : Scope} {f : Addr} {fd : FuncData} {N : List Str} {pin : List Nat} {fb : Sm Fl} {y : Str}
    (F : FunD K x qual params body scope [] [] f fd) (S : FnScope N [y] scope) (hlen : 1 ≤ N.length)
    (h : ∀ (cdv : Value) (A : Around) (outer : List Env) (s : Shared) (H : Hp), Room k (A.deeper (envOfC qual scope s.heap.objs.size f cdv)) → A.guards = some [] → GSs (cxOf CX0 P w K mg base N qual scope f cdv A outer s H E0x) E0x pin body fb)
    (law : ∀ ns : List Int, ns.length ≤ m → ∃ ev, fb (some (.sc ns) :: List.replicate (N.length - 1) none) = .ok (.rt (.fz (.bool true)), ev)) : FnOkG P w K mg base CX0 (k + 1) f fd [y] (spLaw K m) := by
  obtain ⟨oc, od, dV, kV, doc, pm, an, cdv, ct, osl, rfl, lk, hcd, _, _⟩ := F.ex
  refine fn_ofG lk hcd S (fun vs H Q E q => by obtain ⟨_, a, ns, e, _⟩ := q; rw [e]; rfl) (fun A outer s H vs Q E hr hgd q => ?_)
  obtain ⟨rfl, a, ns, rfl, hns, hS, hO, q⟩ := q
  obtain ⟨ev, e⟩ := law ns hns
  have sF : ScF K (fun b => H b ≠ none) H a (ns.map V.int) := by
    rcases hS with (h1 | ⟨o, h1⟩) | h1
    · rcases hO a with z | ⟨o, xs, z⟩
      · rw [h1] at z; cases z
      · rw [h1] at z; cases z
    · exact .inl ⟨(by show H a ≠ none; rw [h1]; exact fun z => nomatch z), o, h1⟩
    · exact .inr h1
  refine ⟨_, h cdv A outer s H hr hgd, ⟨fun b => H b ≠ none, some (.sc ns) :: List.replicate (N.length - 1) none, fun _ => []⟩, ⟨?_, fun i m hi => ?_, fun i _ => rfl, fun i => List.nodup_nil, (fun i j a hi => by cases hi), (fun i a hi => by cases hi), fun a ha => ha⟩, ?_⟩
  · show (L2.start N [V.ref a]).length = _
    unfold L2.start
    simp
  · cases i with
    | zero =>
      cases hi
      exact ⟨.ref a, rfl, rfl, a, rfl, sF⟩
    | succ i =>
      have hi' : (List.replicate (N.length - 1) (none : Option M))[i]? = some (some m) := hi
      rw [List.getElem?_replicate] at hi'
      split at hi' <;> cases hi'
  · unfold RunS
    show match fb (some (.sc ns) :: List.replicate (N.length - 1) none) with
      | .ok (fl, d') => _
      | .exc c => _
      | .no => False
    rw [e]
    intro σ' W' H' v r a1 a2 a3 a4 a5 a6
    cases a5.1.2
    exact q H'
theorem room_u {k : Nat} {A : Around} (hr : Room k A) : A.units + 64 < cLine := by
  have := hr.un
  omega
end TW


set_option Elab.async false
set_option linter.all false
set_option maxRecDepth 100000
set_option maxHeartbeats 2000000
namespace TW
open PySem PySem.Spec PyProof.Rows L2
def tupsOf : List PyData → Option (List (List PyData))
  | [] => some []
  | .tuple b :: r => (tupsOf r).map (b :: ·)
  | _ :: _ => none
def colsOf (n : Nat) (rows : List (List PyData)) : List PyData := (List.range n).map fun j => .tuple (rows.map fun r => r.getD j .none)
/-- list(zip(*d)): rows of one length -/
def sZip : PyData → Sm M
  | .tuple ds => (match tupsOf ds with
    | some (r :: rs) => if rs.all (fun x => x.length == r.length) = true ∧ r.length ≤ 1000 ∧ rs.length ≤ 1000 then sret (.ml ((colsOf r.length (r :: rs)).map .fz)) else sfail
    | _ => sfail)
  | _ => sfail
end TW


set_option Elab.async false
set_option linter.all false
set_option maxRecDepth 100000
set_option maxHeartbeats 2000000
namespace TW
open PySem PySem.Spec PyProof.Rows L2

/-! ### zip of tuples, any number of them: the library's level -/
/-- an iterator it over the tuple t with the items row, at i -/
structure TI3 where
  it : Addr
  t : Addr
  row : List Value
def AtI (h : Heap) (i : Nat) (x : TI3) : Prop := h.IsTupleIter x.it x.t i ∧ h.IsTuple x.t x.row.toArray
/-- the iterators are apart from each other and from the tuples -/
def Apart (L : List TI3) : Prop := (L.map (·.it)).Nodup ∧ ∀ x ∈ L, ∀ y ∈ L, x.t ≠ y.it
section
variable {prog : Program} {w : World} {A : Around} {E : Value → Shared → Prop} {s : Shared}
theorem AtI.other {h h' : Heap} {i : Nat} {x : TI3} {b : Addr} (a : AtI h i x) (hs : Heap.SameBut b h h') (h1 : x.it ≠ b) (h2 : x.t ≠ b) : AtI h' i x := ⟨a.1.at fun o e => (hs.2 _ h1).trans e, a.2.at fun o e => (hs.2 _ h2).trans e⟩
/-- iter(t) for each -/
theorem iterAll_ok {Q : List Value → Shared → Prop} : ∀ (ts : List (Addr × List Value)) (s : Shared) (acc : Array Value) (Q : Array Value → Shared → Prop), (∀ p ∈ ts, s.heap.IsTuple p.1 p.2.toArray) →
    (∀ h' (its : List Addr), its.length = ts.length → (∀ b o, s.heap.get? b = some o → h'.get? b = some o) → (∀ a ∈ its, s.heap.objs.size ≤ a) → its.Nodup → (∀ (j : Nat) it p, its[j]? = some it → ts[j]? = some p → h'.IsTupleIter it p.1 0) → (∀ a ∈ its, a < h'.objs.size) →
      Q (acc ++ (its.map Value.ref).toArray) { s with heap := h' }) →
    wpAny (model prog w) A (forIn (ts.map fun p => Value.ref p.1) acc fun x r => do let v ← holding r.toList (pyIter x); pure (ForInStep.yield (r.push v))) Q E s
  | [], s, acc, Q, _, hQ => by
    rw [List.map_nil, List.forIn_nil]
    have := hQ s.heap [] rfl (fun _ _ e => e) (fun a ha => by cases ha) List.nodup_nil (fun j it p h => by simp at h) (fun a ha => by cases ha)
    simp at this
    exact wpAny_pure this
  | p :: ts, s, acc, Q, ht, hQ => by
    rw [List.map_cons, List.forIn_cons]
    refine wpAny_bind (wpAny_bind (wpAny_holding (wpAny_pyIter_tuple (ht p (List.mem_cons_self ..)) (wpAny_pure ?_))))
    have k1 : ∀ b o, s.heap.get? b = some o → (s.heap.push { cls := .type "tuple_iterator", data := .fields #[.ref p.1, .int 0 0] }).get? b = some o := fun b o e => Heap.get?_push_of_some _ e
    refine iterAll_ok (Q := fun _ _ => True) ts _ _ Q (fun q hq => (ht q (List.mem_cons_of_mem _ hq)).at fun o e => k1 _ o e) fun h' its hl hk hge hnd hit hlt => ?_
    have hsz : (s.heap.push { cls := .type "tuple_iterator", data := .fields #[.ref p.1, .int 0 0] }).objs.size = s.heap.objs.size + 1 := Heap.size_push ..
    have e0 := hk _ _ (Heap.get?_push_size s.heap (o := { cls := .type "tuple_iterator", data := .fields #[.ref p.1, .int 0 0] }) rfl)
    have := hQ h' (s.heap.objs.size :: its) (by rw [List.length_cons, List.length_cons, hl]) (fun b o e => hk b o (k1 b o e)) (fun a ha => ?_) (List.nodup_cons.mpr ⟨fun hm => ?_, hnd⟩) (fun j it q h1 h2 => ?_) (fun a ha => ?_)
    · have e : acc ++ (List.map Value.ref (s.heap.objs.size :: its)).toArray = acc.push (Value.ref s.heap.objs.size) ++ (List.map Value.ref its).toArray := by
        apply Array.toList_inj.mp
        simp
      rw [e] at this
      exact this
    · rcases List.mem_cons.mp ha with y | y
      · rw [y]; exact Nat.le_refl _
      · have := hge a y
        rw [hsz] at this
        omega
    · have := hge _ hm
      rw [hsz] at this
      omega
    · cases j with
      | zero =>
        simp at h1 h2
        subst h1 h2
        exact ⟨_, e0, rfl, rfl⟩
      | succ j => exact hit j it q (by simpa using h1) (by simpa using h2)
    · rcases List.mem_cons.mp ha with y | y
      · rw [y]; exact Heap.lt_size e0
      · exact hlt a y
end
theorem typeCall_zip (us : List Value) : checkTypeCall "zip" ⟨us, []⟩ = pure () := by kernel_rfl
theorem newCall_zip : ∀ us : List Value, us ≠ [] → us.length ≤ 6 → checkBuiltinCall "zip.__new__" ⟨.type "zip" :: us, []⟩ = pure ()
  | [], h, _ => absurd rfl h
  | [_], _, _ => by kernel_rfl
  | [_, _], _, _ => by kernel_rfl
  | [_, _, _], _, _ => by kernel_rfl
  | [_, _, _, _], _, _ => by kernel_rfl
  | [_, _, _, _, _], _, _ => by kernel_rfl
  | [_, _, _, _, _, _], _, _ => by kernel_rfl
  | _ :: _ :: _ :: _ :: _ :: _ :: _ :: r, _, h => by simp at h
theorem objInit (a : Value) (us : List Value) : argsOk "object.__init__" ⟨a :: us, []⟩ := by unfold argsOk; kernel_rfl
/-- the state of such a zip behind its first tuple: T, that tuple, is still there -/
structure ZS (h : Heap) (z TI TO T : Addr) (f : Bool) (L : List TI3) (i : Nat) : Prop where
  zip : IsZipHeld h z TI TO T f
  out : ∃ o, h.get? T = some o
  ti : h.get? TI = some { cls := .type "tuple", data := .seq (L.map fun x => Value.ref x.it).toArray }
  at_ : ∀ x ∈ L, AtI h i x
structure ZSep (z TI TO : Addr) (L : List TI3) : Prop where
  ap : Apart L
  zt : z ≠ TI
  zo : z ≠ TO
  it : TI ≠ TO
  sep : ∀ x ∈ L, x.it ≠ z ∧ x.it ≠ TI ∧ x.it ≠ TO ∧ x.t ≠ z ∧ x.t ≠ TO
/-- the items at i -/
def Col (L : List TI3) (i : Nat) (vs : List Value) : Prop := vs.length = L.length ∧ ∀ (j : Nat) x, L[j]? = some x → x.row[i]? = vs[j]?
section
variable {prog : Program} {w : World} {A : Around} {E : Value → Shared → Prop} {s : Shared}
theorem Apart.tail {x : TI3} {L : List TI3} (h : Apart (x :: L)) : Apart L := ⟨(List.nodup_cons.mp h.1).2, fun a ha b hb => h.2 a (List.mem_cons_of_mem _ ha) b (List.mem_cons_of_mem _ hb)⟩
theorem Col.tail {x : TI3} {L : List TI3} {i : Nat} {v : Value} {vs : List Value} (h : Col (x :: L) i (v :: vs)) : Col L i vs := ⟨by simpa using h.1, fun j y hj => by have := h.2 (j + 1) y (by simpa using hj); simpa using this⟩
theorem loopF {f : Value → (Option PySem.Fin × Array Value) → Sem (ForInStep (Option PySem.Fin × Array Value))}
    (hf : ∀ (it : Addr) (acc : Array Value) (s : Shared) (Q : ForInStep (Option PySem.Fin × Array Value) → Shared → Prop), wpAny (model prog w) A (Builtin.SmallTypes.nextOf (.ref it)) (fun x s' => Q (.yield (none, acc.push x)) s') E s → wpAny (model prog w) A (f (.ref it) (none, acc)) Q E s) :
    ∀ (L : List TI3) (i : Nat) (vs : List Value) (acc : Array Value) (s : Shared) (Q : (Option PySem.Fin × Array Value) → Shared → Prop), (∀ x ∈ L, AtI s.heap i x) → Apart L → Col L i vs →
      (∀ h', h'.objs.size = s.heap.objs.size → (∀ b o, (∀ x ∈ L, b ≠ x.it) → s.heap.get? b = some o → h'.get? b = some o) → (∀ x ∈ L, AtI h' (i + 1) x) → Q (none, acc ++ vs.toArray) { s with heap := h' }) →
      wpAny (model prog w) A (forIn (L.map fun x => Value.ref x.it) (none, acc) f) Q E s
  | [], i, vs, acc, s, Q, _, _, hc, hQ => by
    have e : vs = [] := List.eq_nil_of_length_eq_zero (by simpa using hc.1)
    subst e
    rw [List.map_nil, List.forIn_nil]
    have := hQ s.heap rfl (fun b o _ e => e) (fun x hx => by cases hx)
    exact wpAny_pure (by simpa using this)
  | x :: L, i, vs, acc, s, Q, ha, hp, hc, hQ => by
    cases vs with
    | nil => exact absurd hc.1 (by simp)
    | cons v vs =>
      rw [List.map_cons, List.forIn_cons]
      have h0 : x.row[i]? = some v := by have := hc.2 0 x rfl; simpa using this
      obtain ⟨a1, a2⟩ := ha x (List.mem_cons_self ..)
      have nx : ∀ y ∈ L, y.it ≠ x.it := fun y hy e => (List.nodup_cons.mp hp.1).1 (by show x.it ∈ _; rw [← e]; exact List.mem_map.mpr ⟨y, hy, rfl⟩)
      refine wpAny_bind (hf x.it acc s _ (wpAny_nextOf_tuple_item a1 a2 (x := v) (by simpa using h0) fun h1 i1 s1 => ?_))
      refine loopF hf L i vs (acc.push v) _ Q (fun y hy => (ha y (List.mem_cons_of_mem _ hy)).other s1 (nx y hy) (hp.2 y (List.mem_cons_of_mem _ hy) x (List.mem_cons_self ..))) hp.tail hc.tail fun h' z1 z2 z3 => ?_
      have := hQ h' (z1.trans s1.1) (fun b o hb e => z2 b o (fun y hy => hb y (List.mem_cons_of_mem _ hy)) ((s1.2 b (hb x (List.mem_cons_self ..))).trans e)) fun y hy => ?_
      · have e : acc.push v ++ vs.toArray = acc ++ (v :: vs).toArray := by
          apply Array.toList_inj.mp
          simp
        rw [e]
        exact this
      · rcases List.mem_cons.mp hy with q | q
        · subst q
          refine ⟨i1.at fun o e => z2 _ o (fun u hu q => nx u hu q.symm) e, a2.at fun o e => z2 _ o (fun u hu q => hp.2 y (List.mem_cons_self ..) u (List.mem_cons_of_mem _ hu) q) ((s1.2 _ (hp.2 y (List.mem_cons_self ..) y (List.mem_cons_self ..))).trans e)⟩
        · exact z3 y q
/-- the next tuple, an earlier one being out -/
theorem zipN_next {z TI TO T : Addr} {f : Bool} {L : List TI3} {i : Nat} {vs : List Value} {Q : Value → Shared → Prop} (Z : ZS s.heap z TI TO T f L i) (S : ZSep z TI TO L) (hne : L ≠ []) (hc : Col L i vs) (hz : vs.length ≤ sizeLine)
    (hQ : ∀ h', ZS h' z TI TO T true L (i + 1) → h'.get? s.heap.objs.size = some { cls := .type "tuple", data := .seq vs.toArray } → h'.objs.size = s.heap.objs.size + 1 → (∀ c o, c ≠ z → (∀ x ∈ L, c ≠ x.it) → s.heap.get? c = some o → h'.get? c = some o) → Q (.ref s.heap.objs.size) { s with heap := h' }) :
    wpAny (model prog w) A (Builtin.«zip.__next__» ⟨[.ref z], []⟩) (fun fin s' => ∃ v, fin = .done (.ret v) ∧ Q v s') E s := by
  have hzz := Z.zip
  obtain ⟨oT, hT⟩ := Z.out
  show wpAny _ _ (field (.ref z) 2 >>= _) _ _ _
  refine wpAny_bind (wpAny_field hzz rfl (x := .bool false) rfl ?_)
  show wpAny _ _ (field (.ref z) 3 >>= _) _ _ _
  refine wpAny_bind (wpAny_field hzz rfl (x := .ref TI) rfl ?_)
  refine wpAny_bind (wpAny_seqItems Z.ti rfl ?_)
  show wpAny _ _ (if (L.map fun x => Value.ref x.it).toArray.isEmpty = true then _ else _) _ _ _
  rw [if_neg (by cases L with | nil => exact absurd rfl hne | cons a b => exact Bool.false_ne_true)]
  show wpAny _ _ (Builtin.SmallTypes.ownedTupleIsFree (.ref z) >>= _) _ _ _
  refine wpAny_bind (wpAny_tupleHeld_zip hzz hT fun h₁ hz₁ hs₁ => ?_)
  simp only [Bool.false_eq_true, if_false]
  refine wpAny_bind ?_
  rw [← Array.forIn_toList]
  refine loopF (fun it acc s' Q' h => ?_) L i vs #[] { s with heap := h₁ } _ (fun x hx => (Z.at_ x hx).other hs₁ (S.sep x hx).1 (S.sep x hx).2.2.2.1) S.ap hc fun h₂ k1 k2 k3 => ?_
  · refine wpAny_bind (wpAny_holding ?_)
    show wpAny _ _ (Builtin.SmallTypes.nextOf (.ref it) >>= _) _ _ _
    exact wpAny_bind (wpAny_mono h (fun x s2 q => wpAny_pure (wpAny_pure q)) fun _ _ q => q)
  · have e0 : (#[] : Array Value) ++ vs.toArray = vs.toArray := by simp
    rw [e0]
    show wpAny _ _ (newTuple vs.toArray.toList >>= _) _ _ _
    rw [show vs.toArray.toList = vs from rfl]
    refine wpAny_bind (wpAny_newTuple ?_ hz)
    have hsz : h₂.objs.size = s.heap.objs.size := by rw [k1, hs₁.1]
    have kk : ∀ c o, c ≠ z → (∀ x ∈ L, c ≠ x.it) → s.heap.get? c = some o → h₂.get? c = some o := fun c o c1 c2 e => k2 c o c2 ((hs₁.2 c c1).trans e)
    refine wpAny_pure ⟨_, rfl, ?_⟩
    show Q (.ref h₂.objs.size) _
    have hp : (h₂.push { cls := .type "tuple", data := .seq vs.toArray }).get? h₂.objs.size = some { cls := .type "tuple", data := .seq vs.toArray } := Heap.get?_push_size _ rfl
    have hz4 : (h₂.push { cls := .type "tuple", data := .seq vs.toArray }).objs.size = h₂.objs.size + 1 := Heap.size_push ..
    have up : ∀ b o, h₂.get? b = some o → (h₂.push { cls := .type "tuple", data := .seq vs.toArray }).get? b = some o := fun b o e => Heap.get?_push_of_some _ e
    have hz₃ : IsZipHeld (h₂.push { cls := .type "tuple", data := .seq vs.toArray }) z TI TO T true := up _ _ (k2 _ _ (fun x hx e => (S.sep x hx).1 e.symm) hz₁)
    have hT3 : ∃ o, (h₂.push { cls := .type "tuple", data := .seq vs.toArray }).get? T = some o := by
      by_cases c1 : T = z
      · rw [c1]; exact ⟨_, hz₃⟩
      · by_cases c2 : ∀ x ∈ L, T ≠ x.it
        · exact ⟨_, up _ _ (kk T oT c1 c2 hT)⟩
        · obtain ⟨x, hx⟩ := Classical.not_forall.mp c2
          obtain ⟨hx, e⟩ := Classical.not_imp.mp hx
          have e' : T = x.it := Classical.not_not.mp e
          obtain ⟨⟨o, ho, _⟩, _⟩ := k3 x hx
          rw [e']
          exact ⟨_, up _ _ ho⟩
    rw [hsz] at hp hz4 ⊢
    refine hQ _ ⟨hz₃, hT3, up _ _ (kk TI _ S.zt.symm (fun x hx e => (S.sep x hx).2.1 e.symm) Z.ti), fun x hx => ⟨(k3 x hx).1.at fun o e => up _ _ e, (k3 x hx).2.at fun o e => up _ _ e⟩⟩ hp hz4 fun c o c1 c2 e => up _ _ (kk c o c1 c2 e)
/-- no more -/
theorem zipN_end {z TI TO T : Addr} {f : Bool} {x : TI3} {L : List TI3} {i : Nat} {Q : PySem.Fin → Shared → Prop} (hh : A.handled = none) (Z : ZS s.heap z TI TO T f (x :: L) i) (S : ZSep z TI TO (x :: L)) (hc : x.row[i]? = none)
    (hE : ∀ h' e, (∀ c o, c ≠ z → (∀ y ∈ x :: L, c ≠ y.it) → s.heap.get? c = some o → h'.get? c = some o) → (∃ o, h'.get? e = some o ∧ o.cls = .type "StopIteration") → E (.ref e) { s with heap := h' }) :
    wpAny (model prog w) A (Builtin.«zip.__next__» ⟨[.ref z], []⟩) Q E s := by
  have hzz := Z.zip
  obtain ⟨oT, hT⟩ := Z.out
  show wpAny _ _ (field (.ref z) 2 >>= _) _ _ _
  refine wpAny_bind (wpAny_field hzz rfl (x := .bool false) rfl ?_)
  show wpAny _ _ (field (.ref z) 3 >>= _) _ _ _
  refine wpAny_bind (wpAny_field hzz rfl (x := .ref TI) rfl ?_)
  refine wpAny_bind (wpAny_seqItems Z.ti rfl ?_)
  show wpAny _ _ (Builtin.SmallTypes.ownedTupleIsFree (.ref z) >>= _) _ _ _
  refine wpAny_bind (wpAny_tupleHeld_zip hzz hT fun h₁ hz₁ hs₁ => ?_)
  simp only [Bool.false_eq_true, if_false]
  refine wpAny_bind ?_
  rw [← Array.forIn_toList]
  simp only [List.map_cons, List.forIn_cons]
  refine wpAny_bind (wpAny_bind (wpAny_holding ?_))
  show wpAny _ _ (Builtin.SmallTypes.nextOf (.ref x.it) >>= _) _ _ _
  obtain ⟨a1, a2⟩ := (Z.at_ x (List.mem_cons_self ..)).other hs₁ (S.sep x (List.mem_cons_self ..)).1 (S.sep x (List.mem_cons_self ..)).2.2.2.1
  refine wpAny_bind (wpAny_nextOf_tuple_end (s := { s with heap := h₁ }) hh a1 a2 (by simpa using hc) fun h₂ e hs₂ he => ?_)
  exact hE h₂ e (fun c o c1 c2 q => hs₂ _ _ (c2 x (List.mem_cons_self ..)) ((hs₁.2 c c1).trans q)) he
end
end TW


set_option Elab.async false
set_option linter.all false
set_option maxRecDepth 100000
set_option maxHeartbeats 2000000
namespace TW
open PySem PySem.Spec PyProof.Rows L2
section
variable {prog : Program} {w : World} {A : Around} {E : Value → Shared → Prop} {s : Shared}
abbrev TupO (vs : List Value) : Obj := { cls := .type "tuple", data := .seq vs.toArray }
theorem updTO {TO : Addr} {vs0 rest : List Value} {r x : Value} {Q : Unit → Shared → Prop} (hT : s.heap.get? TO = some (TupO (vs0 ++ r :: rest))) (hz : (vs0 ++ r :: rest).length ≤ sizeLine)
    (h : ∀ h', h'.get? TO = some (TupO (vs0 ++ x :: rest)) → Heap.SameBut TO s.heap h' → Q () { s with heap := h' }) :
    wpAny (model prog w) A (updateSeq TO (·.setIfInBounds vs0.length x)) Q E s := by
  refine wpAny_updateSeq hT rfl (h _ ?_ (Heap.SameBut.update ..)) (by simpa using hz) (by simp at hz ⊢; omega)
  rw [Heap.get?_update_self _ hT rfl]
  simp [Obj.mapSeq, TupO]
theorem loopO {TO : Addr} {f : (Value × Nat) → (Option PySem.Fin × Unit) → Sem (ForInStep (Option PySem.Fin × Unit))}
    (hf : ∀ (it : Addr) (k : Nat) (s : Shared) (Q : ForInStep (Option PySem.Fin × Unit) → Shared → Prop), (∀ E' : Value → Shared → Prop, wpAny (model prog w) A (Builtin.SmallTypes.nextOf (.ref it)) (fun x s' => ∃ vs0 r rest, vs0.length = k ∧ s'.heap.get? TO = some (TupO (vs0 ++ r :: rest)) ∧ (vs0 ++ r :: rest).length ≤ sizeLine ∧
      ∀ h', h'.get? TO = some (TupO (vs0 ++ x :: rest)) → Heap.SameBut TO s'.heap h' → Q (.yield (none, ())) { s' with heap := h' }) E' s) → wpAny (model prog w) A (f (.ref it, k) (none, ())) Q E s) :
    ∀ (L : List TI3) (i : Nat) (vs vs0 rest : List Value) (s : Shared) (Q : (Option PySem.Fin × Unit) → Shared → Prop), (∀ x ∈ L, AtI s.heap i x) → Apart L → (∀ x ∈ L, x.it ≠ TO ∧ x.t ≠ TO) → Col L i vs → s.heap.get? TO = some (TupO (vs0 ++ rest)) → rest.length = L.length → (vs0 ++ rest).length ≤ sizeLine →
      (∀ h', h'.objs.size = s.heap.objs.size → (∀ b o, b ≠ TO → (∀ x ∈ L, b ≠ x.it) → s.heap.get? b = some o → h'.get? b = some o) → (∀ x ∈ L, AtI h' (i + 1) x) → h'.get? TO = some (TupO (vs0 ++ vs)) → Q (none, ()) { s with heap := h' }) →
      wpAny (model prog w) A (forIn ((L.map fun x => Value.ref x.it).zipIdx vs0.length) (none, ()) f) Q E s
  | [], i, vs, vs0, rest, s, Q, _, _, _, hc, ht, hl, hz, hQ => by
    have e : vs = [] := List.eq_nil_of_length_eq_zero (by simpa using hc.1)
    have e2 : rest = [] := List.eq_nil_of_length_eq_zero (by simpa using hl)
    subst e e2
    rw [List.map_nil, List.zipIdx_nil, List.forIn_nil]
    exact wpAny_pure (hQ s.heap rfl (fun b o _ _ e => e) (fun x hx => by cases hx) ht)
  | x :: L, i, vs, vs0, rest, s, Q, ha, hp, hs, hc, ht, hl, hz, hQ => by
    cases vs with
    | nil => exact absurd hc.1 (by simp)
    | cons v vs =>
      cases rest with
      | nil => simp at hl
      | cons r rest =>
        rw [List.map_cons, List.zipIdx_cons, List.forIn_cons]
        have h0 : x.row[i]? = some v := by have := hc.2 0 x rfl; simpa using this
        obtain ⟨a1, a2⟩ := ha x (List.mem_cons_self ..)
        obtain ⟨n1, n2⟩ := hs x (List.mem_cons_self ..)
        have nx : ∀ y ∈ L, y.it ≠ x.it := fun y hy e => (List.nodup_cons.mp hp.1).1 (by show x.it ∈ _; rw [← e]; exact List.mem_map.mpr ⟨y, hy, rfl⟩)
        refine wpAny_bind (hf x.it vs0.length s _ fun _ => (wpAny_nextOf_tuple_item a1 a2 (x := v) (by simpa using h0) fun h1 i1 s1 => ⟨vs0, r, rest, rfl, (s1.2 _ n1.symm).trans ht, hz, fun h2 t2 s2 => ?_⟩))
        have key := loopO hf L i vs (vs0 ++ [v]) rest { s with heap := h2 } Q (fun y hy => ((ha y (List.mem_cons_of_mem _ hy)).other s1 (nx y hy) (hp.2 y (List.mem_cons_of_mem _ hy) x (List.mem_cons_self ..))).other s2 (hs y (List.mem_cons_of_mem _ hy)).1 (hs y (List.mem_cons_of_mem _ hy)).2) hp.tail (fun y hy => hs y (List.mem_cons_of_mem _ hy)) hc.tail (by rw [List.append_assoc]; exact t2) (by simpa using hl) (by simp at hz ⊢; omega) fun h' z1 z2 z3 z4 => ?_
        · rw [List.length_append, List.length_singleton] at key
          exact key
        · have up : ∀ b o, b ≠ TO → b ≠ x.it → s.heap.get? b = some o → h2.get? b = some o := fun b o c1 c2 e => (s2.2 b c1).trans ((s1.2 b c2).trans e)
          refine hQ h' (z1.trans (s2.1.trans s1.1)) (fun b o hb1 hb e => z2 b o hb1 (fun y hy => hb y (List.mem_cons_of_mem _ hy)) (up b o hb1 (hb x (List.mem_cons_self ..)) e)) (fun y hy => ?_) (by rw [z4, List.append_assoc]; rfl)
          rcases List.mem_cons.mp hy with q | q
          · subst q
            refine ⟨i1.at fun o e => z2 _ o n1 (fun u hu q => nx u hu q.symm) ((s2.2 _ n1).trans e), a2.at fun o e => z2 _ o n2 (fun u hu q => hp.2 y (List.mem_cons_self ..) u (List.mem_cons_of_mem _ hu) q) (up _ o n2 (hp.2 y (List.mem_cons_self ..) y (List.mem_cons_self ..)) e)⟩
          · exact z3 y q
/-- the first tuple -/
theorem zipN_first {z TI TO : Addr} {L : List TI3} {i : Nat} {vs kept : List Value} {Q : Value → Shared → Prop} (hzz : IsZip s.heap z TI TO .none) (hti : s.heap.get? TI = some (TupO (L.map fun x => Value.ref x.it))) (hto : s.heap.get? TO = some (TupO kept)) (hk : kept.length = L.length) (hat : ∀ x ∈ L, AtI s.heap i x) (S : ZSep z TI TO L) (hne : L ≠ []) (hc : Col L i vs) (hz : vs.length ≤ sizeLine)
    (hQ : ∀ h', ZS h' z TI TO s.heap.objs.size false L (i + 1) → h'.get? s.heap.objs.size = some (TupO vs) → h'.objs.size = s.heap.objs.size + 1 → (∀ c o, c ≠ z → c ≠ TO → (∀ x ∈ L, c ≠ x.it) → s.heap.get? c = some o → h'.get? c = some o) → Q (.ref s.heap.objs.size) { s with heap := h' }) :
    wpAny (model prog w) A (Builtin.«zip.__next__» ⟨[.ref z], []⟩) (fun fin s' => ∃ v, fin = .done (.ret v) ∧ Q v s') E s := by
  show wpAny _ _ (field (.ref z) 2 >>= _) _ _ _
  refine wpAny_bind (wpAny_field hzz rfl (x := .bool false) rfl ?_)
  show wpAny _ _ (field (.ref z) 3 >>= _) _ _ _
  refine wpAny_bind (wpAny_field hzz rfl (x := .ref TI) rfl ?_)
  refine wpAny_bind (wpAny_seqItems hti rfl ?_)
  show wpAny _ _ (if (L.map fun x => Value.ref x.it).toArray.isEmpty = true then _ else _) _ _ _
  rw [if_neg (by cases L with | nil => exact absurd rfl hne | cons a b => exact Bool.false_ne_true)]
  show wpAny _ _ (Builtin.SmallTypes.ownedTupleIsFree (.ref z) >>= _) _ _ _
  refine wpAny_bind ?_
  unfold Builtin.SmallTypes.ownedTupleIsFree
  refine wpAny_bind (wpAny_field hzz rfl (x := .none) rfl (wpAny_pure ?_))
  simp only [if_true]
  refine wpAny_bind (wpAny_rule ?_)
  refine wpAny_bind (wpAny_field hzz rfl (x := .ref TO) rfl ?_)
  refine wpAny_bind (wpAny_setField_rec hzz (by simp) fun g0 hz0 hs0 => ?_)
  replace hz0 : IsZip g0 z TI TO .ellipsis := hz0
  refine wpAny_bind ?_
  have hto0 : g0.get? TO = some (TupO ([] ++ kept)) := (hs0.2 _ S.zo.symm).trans hto
  have lp := fun f hf Q' hQ' => loopO (prog := prog) (w := w) (A := A) (E := E) (TO := TO) (f := f) hf L i vs [] kept { s with heap := g0 } Q' (fun x hx => (hat x hx).other hs0 (S.sep x hx).1 (S.sep x hx).2.2.2.1) S.ap (fun x hx => ⟨(S.sep x hx).2.2.1, (S.sep x hx).2.2.2.2⟩) hc hto0 hk (by rw [List.nil_append, hk, ← hc.1]; exact hz) hQ'
  refine lp _ (fun it k s' Q' h => ?_) _ fun h₂ k1 k2 k3 k4 => ?_
  · refine wpAny_bind (wpAny_onRaise ?_)
    show wpAny _ _ (Builtin.SmallTypes.nextOf (.ref it) >>= _) _ _ s'
    refine wpAny_bind (wpAny_mono (h _) (fun x s2 q => wpAny_pure ?_) fun _ _ q => q)
    obtain ⟨vs0, r, rest, e1, e2, e3, e4⟩ := q
    refine wpAny_bind (wpAny_seqItems e2 rfl ?_)
    rw [← e1]
    refine wpAny_bind (updTO e2 e3 fun h' t1 t2 => ?_)
    exact wpAny_bind (wpAny_letGo (wpAny_pure (e4 h' t1 t2)))
  · have hz2 : IsZip h₂ z TI TO .ellipsis := k2 _ _ S.zo (fun x hx e => (S.sep x hx).1 e.symm) hz0
    have hzlt : z < h₂.objs.size := Heap.lt_size hz2
    have hsz : h₂.objs.size = s.heap.objs.size := by rw [k1]; exact hs0.1
    refine wpAny_bind (wpAny_seqItems (s := { s with heap := h₂ }) k4 rfl ?_)
    refine wpAny_bind (wpAny_newTuple ?_ hz)
    show wpAny _ _ (Builtin.SmallTypes.ownedTupleHandOut (.ref z) (.ref h₂.objs.size) >>= _) _ _ { s with heap := h₂.push (TupO vs) }
    refine wpAny_bind ?_
    unfold Builtin.SmallTypes.ownedTupleHandOut
    have hz₆ : IsZip (h₂.push (TupO vs)) z TI TO .ellipsis := Heap.get?_push_of_some _ hz2
    refine wpAny_bind (wpAny_setField_rec hz₆ (by simp) fun h₇ hz₇ hs₇ => ?_)
    replace hz₇ : IsZip h₇ z TI TO (rawInt h₂.objs.size) := hz₇
    refine wpAny_setField_rec hz₇ (by simp) fun h₈ hz₈ hs₈ => ?_
    replace hz₈ : IsZip h₈ z TI TO (rawInt h₂.objs.size) := hz₈
    replace hs₇ : Heap.SameBut z (h₂.push (TupO vs)) h₇ := hs₇
    replace hs₈ : Heap.SameBut z h₇ h₈ := hs₈
    have up : ∀ c o, c ≠ z → h₂.get? c = some o → h₈.get? c = some o := fun c o c1 e => hs₈.extBut _ _ c1 (hs₇.extBut _ _ c1 (Heap.get?_push_of_some _ e))
    have hT₈ : h₈.get? h₂.objs.size = some (TupO vs) := hs₈.extBut _ _ (Nat.ne_of_gt hzlt) (hs₇.extBut _ _ (Nat.ne_of_gt hzlt) (Heap.get?_push_size _ rfl))
    have hz8 : h₈.objs.size = h₂.objs.size + 1 := by rw [hs₈.1, hs₇.1, Heap.size_push]
    have kk : ∀ c o, c ≠ z → c ≠ TO → (∀ x ∈ L, c ≠ x.it) → s.heap.get? c = some o → h₈.get? c = some o := fun c o c1 c3 c2 e => up c o c1 (k2 c o c3 c2 ((hs0.2 c c1).trans e))
    rw [hsz] at hz₈ hT₈ hz8
    refine wpAny_pure ⟨_, rfl, ?_⟩
    show Q (.ref h₂.objs.size) { s with heap := h₈ }
    rw [hsz]
    refine hQ h₈ ⟨?_, ⟨_, hT₈⟩, kk TI _ S.zt.symm S.it (fun x hx e => (S.sep x hx).2.1 e.symm) hti, fun x hx => ⟨(k3 x hx).1.at fun o e => up _ _ (S.sep x hx).1 e, (k3 x hx).2.at fun o e => up _ _ (S.sep x hx).2.2.2.1 e⟩⟩ hT₈ hz8 kk
    exact hz₈
end
end TW


set_option Elab.async false
set_option linter.all false
set_option maxRecDepth 100000
set_option maxHeartbeats 2000000
namespace TW
open PySem PySem.Spec PyProof.Rows L2
theorem zip_no_len : typeLookup (.type "zip") "__len__" = pure none := by rw [typeLookup_type, builtinLookup_eq_fast]; kernel_rfl
theorem zip_no_hint : typeLookup (.type "zip") "__length_hint__" = pure none := by rw [typeLookup_type, builtinLookup_eq_fast]; kernel_rfl
/-- zip.__new__ of tuples -/
theorem meets_zipN (ts : List (Addr × List Value)) (hne : ts ≠ []) (hz : ts.length ≤ sizeLine) :
    Meets (Builtin.«zip.__new__» ⟨.type "zip" :: ts.map (fun p => Value.ref p.1), []⟩) (fun _ R s => (∀ p ∈ ts, s.heap.IsTuple p.1 p.2.toArray) ∧
      ∀ h' (its : List Addr) z TI TO, its.length = ts.length → (∀ b o, s.heap.get? b = some o → h'.get? b = some o) → (∀ a ∈ its, s.heap.objs.size ≤ a ∧ a < TI) → its.Nodup → (∀ (j : Nat) it p, its[j]? = some it → ts[j]? = some p → h'.IsTupleIter it p.1 0) →
        IsZip h' z TI TO .none → h'.get? TI = some (TupO (its.map Value.ref)) → h'.get? TO = some (TupO (its.map fun _ => Value.none)) → TI < TO → TO < z → s.heap.objs.size ≤ TI → R (.ok (.ret (.ref z))) { s with heap := h' }) :=
  .of_wp fun prog w A R s h => by
    obtain ⟨ht, h⟩ := h
    unfold Builtin.«zip.__new__» Builtin.SmallTypes.newClass
    dsimp only
    refine wpAny_bind (wpAny_bind (wpAny_pure (a := true) ?_))
    simp only [Bool.not_true, Bool.false_eq_true, if_false]
    rw [sub_zip]
    refine wpAny_bind (wpAny_pure ?_)
    simp only [Bool.not_true, Bool.false_eq_true, if_false]
    refine wpAny_pure ?_
    dsimp only
    simp only [List.length_nil, gt_iff_lt, Nat.not_lt_zero, if_false]
    unfold Builtin.SmallTypes.iterAll
    refine wpAny_bind (wpAny_bind (iterAll_ok (Q := fun _ _ => True) ts s #[] _ ht fun h1 its hl hk hge hnd hit hlt => wpAny_pure ?_))
    have e0 : ((#[] : Array Value) ++ (its.map Value.ref).toArray).toList = its.map Value.ref := by simp
    rw [e0]
    refine wpAny_bind (wpAny_newTuple ?_ (by rw [List.length_map, hl]; exact hz))
    refine wpAny_bind (wpAny_newTuple ?_ (by rw [List.length_map, List.length_map, hl]; exact hz))
    refine wpAny_bind ?_
    unfold Builtin.SmallTypes.newRecord
    refine wpAny_newObj_type ?_ (by show 5 ≤ sizeLine + 2; rw [sizeLine_eq]; decide)
    refine wpAny_pure ⟨_, rfl, ?_⟩
    rw [List.map_map]
    have z1 : (h1.push (TupO (its.map Value.ref))).objs.size = h1.objs.size + 1 := Heap.size_push ..
    have z2 : ((h1.push (TupO (its.map Value.ref))).push (TupO (its.map fun _ => Value.none))).objs.size = h1.objs.size + 2 := by rw [Heap.size_push, z1]
    have hs1 : s.heap.objs.size ≤ h1.objs.size := by
      cases its with
      | nil => exact absurd (List.eq_nil_of_length_eq_zero hl.symm) hne
      | cons a r => exact Nat.le_trans (hge a (List.mem_cons_self ..)) (Nat.le_of_lt (hlt a (List.mem_cons_self ..)))
    have key := h (((h1.push (TupO (its.map Value.ref))).push (TupO (its.map fun _ => Value.none))).push { cls := .type "zip", data := .fields #[.none, .bool false, .bool false, .ref h1.objs.size, .ref (h1.objs.size + 1)] }) its (h1.objs.size + 2) h1.objs.size (h1.objs.size + 1) hl
      (fun b o e => Heap.get?_push_of_some _ (Heap.get?_push_of_some _ (Heap.get?_push_of_some _ (hk b o e)))) (fun a ha => ⟨hge a ha, hlt a ha⟩) hnd
      (fun j it p e1 e2 => (hit j it p e1 e2).at fun o e => Heap.get?_push_of_some _ (Heap.get?_push_of_some _ (Heap.get?_push_of_some _ e))) ?_ ?_ ?_ (Nat.lt_succ_self _) (Nat.lt_succ_self _) hs1
    · show R (.ok (.ret (.ref ((h1.push (TupO (its.map Value.ref))).push (TupO (its.map fun _ => Value.none))).objs.size))) _
      rw [z2]
      have e5 : ((fun x => Value.none) ∘ Value.ref : Addr → Value) = fun _ => Value.none := rfl
      rw [← z1] at key
      exact key
    · rw [← z2]
      exact Heap.get?_push_size _ rfl
    · exact Heap.get?_push_of_some _ (Heap.get?_push_of_some _ (Heap.get?_push_size _ rfl))
    · rw [← z1]
      exact Heap.get?_push_of_some _ (Heap.get?_push_size _ rfl)
section
variable {prog : Program} {w : World} {A : Around} {E : Value → Shared → Prop} {s : Shared}
theorem call_zipN {ts : List (Addr × List Value)} {Q : Value → Shared → Prop} (hne : ts ≠ []) (h6 : ts.length ≤ 6) (ht : ∀ p ∈ ts, s.heap.IsTuple p.1 p.2.toArray)
    (h : ∀ h' (its : List Addr) z TI TO, its.length = ts.length → (∀ b o, s.heap.get? b = some o → h'.get? b = some o) → (∀ a ∈ its, s.heap.objs.size ≤ a ∧ a < TI) → its.Nodup → (∀ (j : Nat) it p, its[j]? = some it → ts[j]? = some p → h'.IsTupleIter it p.1 0) →
        IsZip h' z TI TO .none → h'.get? TI = some (TupO (its.map Value.ref)) → h'.get? TO = some (TupO (its.map fun _ => Value.none)) → TI < TO → TO < z → s.heap.objs.size ≤ TI → Q (.ref z) { s with heap := h' }) :
    wpAny (model prog w) A (call (.type "zip") (ts.map fun p => Value.ref p.1)) Q E s := by
  have hz : ts.length ≤ sizeLine := by rw [sizeLine_eq]; omega
  refine callType_new F.called_zip (by decide) (typeCall_zip _) (newCall_zip _ (by simpa using hne) (by simpa using h6)) (fun obj => objInit obj _) F.entry_zip_new (meets_zipN ts hne hz) ⟨ht, fun h' its z TI TO a1 a2 a3 a4 a5 a6 a7 a8 a9 a10 a11 => ?_⟩
  exact ⟨⟨_, a6, rfl⟩, h h' its z TI TO a1 a2 a3 a4 a5 a6 a7 a8 a9 a10 a11⟩
end
end TW


set_option Elab.async false
set_option linter.all false
set_option maxRecDepth 100000
set_option maxHeartbeats 2000000
namespace TW
open PySem PySem.Spec PyProof.Rows L2
/-- the zip at the column i; S is a list that grows beside it -/
def StZ (h : Heap) (z TI TO S : Addr) (L : List TI3) (i : Nat) : Prop :=
  (i = 0 ∧ IsZip h z TI TO .none ∧ h.get? TI = some (TupO (L.map fun x => Value.ref x.it)) ∧ (∃ kept, h.get? TO = some (TupO kept) ∧ kept.length = L.length) ∧ ∀ x ∈ L, AtI h 0 x) ∨ (0 < i ∧ ∃ T f, T ≠ S ∧ ZS h z TI TO T f L i)
section
variable {prog : Program} {w : World} {A : Around} {E : Value → Shared → Prop} {s : Shared}
theorem StZ.typ {h : Heap} {z TI TO S : Addr} {L : List TI3} {i : Nat} (H : StZ h z TI TO S L i) : ∃ o, h.get? z = some o ∧ o.cls = .type "zip" := by
  rcases H with ⟨_, a, _⟩ | ⟨_, T, f, _, Z⟩
  · exact ⟨_, a, rfl⟩
  · exact ⟨_, Z.zip, rfl⟩
theorem StZ.keep {h h' : Heap} {z TI TO S : Addr} {L : List TI3} {i : Nat} (H : StZ h z TI TO S L i) (P : ZSep z TI TO L) (hz : z ≠ S) (hti : TI ≠ S) (hto : TO ≠ S) (hL : ∀ x ∈ L, x.it ≠ S ∧ x.t ≠ S) (k : ∀ b o, b ≠ S → h.get? b = some o → h'.get? b = some o) : StZ h' z TI TO S L i := by
  have ka : ∀ x ∈ L, ∀ j, AtI h j x → AtI h' j x := fun x hx j a => ⟨a.1.at fun o e => k _ o (hL x hx).1 e, a.2.at fun o e => k _ o (hL x hx).2 e⟩
  rcases H with ⟨e, a, b, ⟨kept, c, d⟩, f⟩ | ⟨e, T, f, hT, Z⟩
  · exact .inl ⟨e, k _ _ hz a, k _ _ hti b, ⟨kept, k _ _ hto c, d⟩, fun x hx => ka x hx _ (f x hx)⟩
  · obtain ⟨o, ho⟩ := Z.out
    exact .inr ⟨e, T, f, hT, k _ _ hz Z.zip, ⟨o, k _ _ hT ho⟩, k _ _ hti Z.ti, fun x hx => ka x hx _ (Z.at_ x hx)⟩
theorem zipN_item {z TI TO S : Addr} {L : List TI3} {i : Nat} {vs : List Value} {Q : Option Value → Shared → Prop} (H : StZ s.heap z TI TO S L i) (P : ZSep z TI TO L) (hne : L ≠ []) (hc : Col L i vs) (hz : vs.length ≤ sizeLine) (hS : S < s.heap.objs.size)
    (hQ : ∀ h', StZ h' z TI TO S L (i + 1) → h'.get? s.heap.objs.size = some (TupO vs) → h'.objs.size = s.heap.objs.size + 1 → (∀ c o, c ≠ z → c ≠ TO → (∀ x ∈ L, c ≠ x.it) → s.heap.get? c = some o → h'.get? c = some o) → Q (some (.ref s.heap.objs.size)) { s with heap := h' }) :
    wpAny (model prog w) A (pyNext (.ref z)) Q E s := by
  obtain ⟨oz, ho, hcl⟩ := H.typ
  have hT : s.TypeIs (.ref z) "zip" := ⟨_, ho, hcl⟩
  unfold pyNext
  refine wpAny_bind (wpAny_attempt (wpAny_callSpecial?_slot (name := Str.ofString "__next__") hT F.slot_zip_next (wpAny_call_entry F.slot_zip_next hT F.entry_zip_next ?_ (F.args_zip_next_1 _))))
  rcases H with ⟨e, a, b, ⟨kept, c, d⟩, f⟩ | ⟨e, T, f, hTS, Z⟩
  · subst e
    exact zipN_first a b c d f P hne hc hz fun h' z1 z2 z3 z4 => wpAny_pure (hQ h' (.inr ⟨Nat.succ_pos _, _, _, (Nat.ne_of_lt hS).symm, z1⟩) z2 z3 z4)
  · exact zipN_next Z P hne hc hz fun h' z1 z2 z3 z4 => wpAny_pure (hQ h' (.inr ⟨Nat.succ_pos _, _, _, hTS, z1⟩) z2 z3 fun c o c1 c2 c3 => z4 c o c1 c3)
theorem zipN_stop {z TI TO S : Addr} {x : TI3} {L : List TI3} {i : Nat} {Q : Option Value → Shared → Prop} (hh : A.handled = none) (H : StZ s.heap z TI TO S (x :: L) i) (hi : 0 < i) (P : ZSep z TI TO (x :: L)) (hc : x.row[i]? = none)
    (hQ : ∀ h', (∀ c o, c ≠ z → (∀ y ∈ x :: L, c ≠ y.it) → s.heap.get? c = some o → h'.get? c = some o) → Q none { s with heap := h' }) :
    wpAny (model prog w) A (pyNext (.ref z)) Q E s := by
  obtain ⟨oz, ho, hcl⟩ := H.typ
  have hT : s.TypeIs (.ref z) "zip" := ⟨_, ho, hcl⟩
  rcases H with ⟨e, a, b, c, f⟩ | ⟨e, T, f, hTS, Z⟩
  · omega
  · unfold pyNext
    refine wpAny_bind (wpAny_attempt (wpAny_callSpecial?_slot (name := Str.ofString "__next__") hT F.slot_zip_next (wpAny_call_entry F.slot_zip_next hT F.entry_zip_next (zipN_end (by exact hh) Z P hc fun h' e k he => ?_) (F.args_zip_next_1 _))))
    obtain ⟨o, ho, hc⟩ := he
    refine wpAny_bind (wpAny_isInstance (T := "StopIteration") (b := true) ⟨o, ho, hc⟩ isSubtype_stop ?_)
    exact wpAny_pure (hQ _ k)
end
/-- the tuples that came out: rising, behind lo -/
structure Cols (col : Nat → List Value) (lo : Addr) (h : Heap) (as : List Addr) : Prop where
  rise : as.Pairwise (· < ·)
  above : ∀ a ∈ as, lo < a
  tup : ∀ (j : Nat) (a : Addr), as[j]? = some a → h.get? a = some (TupO (col j))
theorem Cols.there {col : Nat → List Value} {lo : Addr} {h : Heap} {as : List Addr} (g : Cols col lo h as) {a : Addr} (ha : a ∈ as) : a < h.objs.size := by
  obtain ⟨j, hj⟩ := List.mem_iff_getElem?.mp ha
  exact Heap.lt_size (g.tup j a hj)
section
variable {prog : Program} {w : World} {A : Around} {s : Shared} {R : Result → Shared → Prop}
theorem loopZ {S z TI TO : Addr} {x : TI3} {L : List TI3} {col : Nat → List Value} {n : Nat} (hh : A.handled = none) (P : ZSep z TI TO (x :: L)) (hz : z ≠ S) (hti : TI ≠ S) (hto : TO ≠ S) (hL : ∀ y ∈ x :: L, y.it ≠ S ∧ y.t ≠ S)
    (hcol : ∀ i, i < n → Col (x :: L) i (col i)) (hl : (x :: L).length ≤ sizeLine) (hend : x.row[n]? = none) (hn0 : 0 < n) (hn : n ≤ sizeLine) (lo : Addr) (hlo : z ≤ lo ∧ TO ≤ lo ∧ S ≤ lo ∧ ∀ y ∈ x :: L, y.it ≤ lo) (res : Value) {h₁ : Heap}
    (hR : ∀ h' tk acc c as, (∀ b o, b ≠ S → b ≠ z → b ≠ TO → (∀ y ∈ x :: L, b ≠ y.it) → h₁.get? b = some o → h'.get? b = some o) → h'.get? S = some { cls := .type "list", dict := none, data := .seq acc c, slots := #[] } → as.length = n → Cols col lo h' as →
      acc.toList = as.map Value.ref → R (.ok (.ret res)) { s with heap := h', toks := tk }) :
    ∀ (k i : Nat) (h : Heap) (tk c : Nat) (acc : Array Value) (as : List Addr), n - i = k → i ≤ n → StZ h z TI TO S (x :: L) i → (∀ b o, b ≠ S → b ≠ z → b ≠ TO → (∀ y ∈ x :: L, b ≠ y.it) → h₁.get? b = some o → h.get? b = some o) →
      h.get? S = some { cls := .type "list", dict := none, data := .seq acc c, slots := #[] } → acc.toList = as.map Value.ref → as.length = i → Cols col lo h as → lo < h.objs.size →
      codeAny (model prog w) A (.builtin "list.extend.loop" ⟨[.ref S, .ref z, res], []⟩) R { s with heap := h, toks := tk } := by
  intro k
  induction k with
  | zero =>
    intro i h tk c acc as hk hi hst hkeep hS hacc hal hG hIs
    have hin : i = n := by omega
    refine codeAny_builtin PySem.F.entry_extend_loop ?_
    rw [Around.under_plainId PySem.F.plain_extend_loop _]
    show wpAny _ A.in1 (pyNext (.ref z) >>= _) _ _ _
    refine wpAny_bind (zipN_stop (s := { s with heap := h, toks := tk }) (A := A.in1) hh hst (by omega) P (by rw [hin]; exact hend) fun h' he => ?_)
    refine wpAny_pure (hR h' tk acc c as (fun b o h1 h2 h3 h4 e => he b o h2 h4 (hkeep b o h1 h2 h3 h4 e)) (he S _ hz.symm (fun y hy e => (hL y hy).1 e.symm) hS) (by omega) ⟨hG.rise, hG.above, fun j a hj => ?_⟩ hacc)
    have hb := hG.above a (List.mem_of_getElem? hj)
    exact he a _ (Nat.ne_of_gt (Nat.lt_of_le_of_lt hlo.1 hb)) (fun y hy => Nat.ne_of_gt (Nat.lt_of_le_of_lt (hlo.2.2.2 y hy) hb)) (hG.tup j a hj)
  | succ k ih =>
    intro i h tk c acc as hk hi hst hkeep hS hacc hal hG hIs
    have hlt : i < n := by omega
    have hsz : acc.size = i := by rw [← Array.length_toList, hacc, List.length_map, hal]
    refine codeAny_builtin PySem.F.entry_extend_loop ?_
    rw [Around.under_plainId PySem.F.plain_extend_loop _]
    show wpAny _ A.in1 (pyNext (.ref z) >>= _) _ _ _
    refine wpAny_bind (zipN_item (s := { s with heap := h, toks := tk }) (S := S) hst P (by simp) (hcol i hlt) (by rw [(hcol i hlt).1]; exact hl) (Heap.lt_size hS) fun h' hst' ht hz' hkp => ?_)
    dsimp only at ht hz' hkp ⊢
    have hS' := hkp S _ hz.symm hto.symm (fun y hy e => (hL y hy).1 e.symm) hS
    have up : ∀ b o, b ≠ S → h'.get? b = some o → (h'.update S (Obj.mapSeq (·.push (Value.ref h.objs.size)))).get? b = some o := fun b o hb e => (Heap.get?_update_other _ _ (Ne.symm hb)).trans e
    have hSl : S < h.objs.size := Heap.lt_size hS
    show wpAny _ A.in1 (updateSeq S (·.push (Value.ref h.objs.size)) >>= _) _ _ _
    refine wpAny_bind ?_
    refine wpAny_updateSeq hS' rfl (wpAny_pure ⟨plainId_quiet PySem.F.plain_extend_loop _, ih (i + 1) _ tk _ (acc.push (Value.ref h.objs.size)) (as ++ [h.objs.size]) (by omega) hlt (hst'.keep P hz hti hto hL up)
      (fun b o h1 h2 h3 h4 e => up b o h1 (hkp b o h2 h3 h4 (hkeep b o h1 h2 h3 h4 e))) (Heap.get?_update_self _ hS' rfl) (by rw [Array.toList_push, hacc, List.map_append]; rfl) (by rw [List.length_append, hal]; rfl) ⟨?_, ?_, ?_⟩ ?_⟩) (by rw [hsz]; omega) (by show (acc.push (Value.ref h.objs.size)).size ≤ sizeLine + 1; rw [Array.size_push, hsz]; omega)
    · refine List.pairwise_append.mpr ⟨hG.rise, List.pairwise_singleton _ _, fun a ha b hb => ?_⟩
      rw [List.mem_singleton.mp hb]
      exact hG.there ha
    · intro a ha
      rcases List.mem_append.mp ha with ha | ha
      · exact hG.above a ha
      · rw [List.mem_singleton.mp ha]; exact hIs
    · intro j b hj
      rcases Nat.lt_trichotomy j as.length with h1 | h1 | h1
      · rw [List.getElem?_append_left h1] at hj
        have e3 := hG.tup j b hj
        have hb := hG.above b (List.mem_of_getElem? hj)
        exact up b _ (Nat.ne_of_gt (Nat.lt_of_le_of_lt hlo.2.2.1 hb)) (hkp b _ (Nat.ne_of_gt (Nat.lt_of_le_of_lt hlo.1 hb)) (Nat.ne_of_gt (Nat.lt_of_le_of_lt hlo.2.1 hb)) (fun y hy => Nat.ne_of_gt (Nat.lt_of_le_of_lt (hlo.2.2.2 y hy) hb)) e3)
      · subst h1
        have hb : h.objs.size = b := by simpa using hj
        subst hb
        rw [hal]
        exact up _ _ (Nat.ne_of_gt hSl) ht
      · have hnone : (as ++ [h.objs.size])[j]? = none := List.getElem?_eq_none (by rw [List.length_append, List.length_singleton]; omega)
        rw [hnone] at hj; cases hj
    · have e : (h'.update S (Obj.mapSeq (·.push (Value.ref h.objs.size)))).get? h.objs.size = _ := up _ _ (Nat.ne_of_gt hSl) ht
      exact Nat.lt_trans hIs (Heap.lt_size e)
end
end TW


set_option Elab.async false
set_option linter.all false
set_option maxRecDepth 100000
set_option maxHeartbeats 2000000
namespace TW
open PySem PySem.Spec PyProof.Rows L2
section
variable {prog : Program} {w : World} {A : Around} {E : Value → Shared → Prop} {s : Shared}
/-- list(z) of such a zip -/
theorem call_list_zipN {z TI TO : Addr} {x : TI3} {L : List TI3} {col : Nat → List Value} {n : Nat} {Q : Value → Shared → Prop} (hh : A.handled = none) (P : ZSep z TI TO (x :: L)) (H : ∀ S, StZ s.heap z TI TO S (x :: L) 0)
    (hcol : ∀ i, i < n → Col (x :: L) i (col i)) (hl : (x :: L).length ≤ sizeLine) (hend : x.row[n]? = none) (hn0 : 0 < n) (hn : n ≤ sizeLine) (hti : TI < s.heap.objs.size) (hlt : z < s.heap.objs.size ∧ TO < s.heap.objs.size ∧ ∀ y ∈ x :: L, y.it < s.heap.objs.size ∧ y.t < s.heap.objs.size)
    (hQ : ∀ h' tk acc c as, (∀ b o, b ≠ s.heap.objs.size → b ≠ z → b ≠ TO → (∀ y ∈ x :: L, b ≠ y.it) → s.heap.get? b = some o → h'.get? b = some o) → h'.get? s.heap.objs.size = some { cls := .type "list", dict := none, data := .seq acc c, slots := #[] } → as.length = n → Cols col s.heap.objs.size h' as →
      acc.toList = as.map Value.ref → Q (.ref s.heap.objs.size) { s with heap := h', toks := tk }) :
    wpAny (model prog w) A (call (.type "list") [.ref z]) Q E s := by
  have hSz : s.heap.objs.size ≠ z := Nat.ne_of_gt hlt.1
  refine callType_codes (Q₁ := fun obj s₁ => obj = .ref s.heap.objs.size ∧ s₁ = { s with heap := s.heap.push { cls := .type "list", data := .seq #[] } }) F.called_list (F.typeCall_list_1 _) F.entry_list_init
    (code_list_new _ ⟨rfl, rfl⟩) fun obj s₁ h₁ => ?_
  obtain ⟨rfl, rfl⟩ := h₁
  have hS : (s.heap.push { cls := .type "list", data := .seq #[] }).get? s.heap.objs.size = some { cls := .type "list", data := .seq #[] } := Heap.get?_push_size _ rfl
  refine ⟨⟨_, hS, rfl⟩, F.args_list_init_2 _ _, ?_⟩
  show wpAny _ A.in1.in1 (do let old ← Builtin.List.listItems (.ref s.heap.objs.size); Builtin.List.listUpdate (.ref s.heap.objs.size) (fun _ => #[]); letGo old.toList.reverse; Builtin.List.listExtendWith (.ref s.heap.objs.size) (.ref z) .none) _ _ _
  refine wpAny_bind ?_
  unfold Builtin.List.listItems
  refine wpAny_bind (wpAny_seqItems hS rfl (wpAny_pure ?_))
  show wpAny _ A.in1.in1 (updateSeq s.heap.objs.size (fun _ => #[]) >>= fun _ => letGo (#[] : Array Value).toList.reverse >>= fun _ => Builtin.List.listExtendWith (.ref s.heap.objs.size) (.ref z) .none) _ _ _
  refine wpAny_bind (wpAny_updateSeq hS rfl ?_)
  have hS2 := Heap.get?_update_self (Obj.mapSeq (fun _ => (#[] : Array Value))) hS rfl
  refine wpAny_bind (wpAny_letGo ?_)
  unfold Builtin.List.listExtendWith
  have up : ∀ (h : Heap) (f : Obj → Obj), (∀ b o, s.heap.get? b = some o → h.get? b = some o) → ∀ b o, s.heap.get? b = some o → (h.update s.heap.objs.size f).get? b = some o := fun h f q b o e =>
    (Heap.get?_update_other _ _ (Ne.symm (Nat.ne_of_lt (Heap.lt_size e)))).trans (q b o e)
  have k1 : ∀ b o, s.heap.get? b = some o → (s.heap.push { cls := .type "list", data := .seq #[] }).get? b = some o := fun b o e => Heap.get?_push_of_some _ e
  have k2 := up _ (Obj.mapSeq (fun _ => (#[] : Array Value))) k1
  obtain ⟨oz, hoz, hcz⟩ := (H 0).typ
  have hT : ∀ {h : Heap}, (∀ b o, s.heap.get? b = some o → h.get? b = some o) → ({ s with heap := h } : Shared).TypeIs (.ref z) "zip" := fun {h} q => ⟨oz, q _ _ hoz, hcz⟩
  refine wpAny_bind (wpAny_typeOf (hT k2) ?_)
  have h1 : Builtin.List.listSameRef (.ref s.heap.objs.size) (.ref z) = false := by simp [Builtin.List.listSameRef, hSz]
  have h2 : (Value.type "zip" == Value.type "list") = false := by decide
  have h3 : (Value.type "zip" == Value.type "tuple") = false := by decide
  simp only [h1, h2, h3, Bool.or_false, Bool.false_eq_true, if_false]
  have hzz : IsZip s.heap z TI TO .none := by
    rcases H 0 with ⟨_, a, _⟩ | ⟨a, _⟩
    · exact a
    · omega
  refine wpAny_bind (wpAny_pyIter_zip (s := { s with heap := _ }) (k2 _ _ hzz) ?_)
  refine wpAny_bind (wpAny_holding ?_)
  unfold Builtin.List.listLengthHint
  refine wpAny_bind (wpAny_specialOf (hT k2) zip_no_len ?_)
  show wpAny _ A.in1.in1 (specialOf (Value.ref z) (Str.ofString "__length_hint__") >>= _) _ _ _
  refine wpAny_bind (wpAny_specialOf (hT k2) zip_no_hint ?_)
  refine wpAny_pure ?_
  show wpAny _ A.in1.in1 (rule "list.extend.makes-room" >>= fun _ => Builtin.List.listTouch (.ref s.heap.objs.size) >>= fun _ =>
    again (.builtin "list.extend.loop" ⟨[.ref s.heap.objs.size, .ref z, .none], []⟩)) _ _ _
  refine wpAny_bind (wpAny_rule ?_)
  refine wpAny_bind ?_
  show wpAny _ A.in1.in1 (updateSeq s.heap.objs.size (·.push .none) >>= fun _ => updateSeq s.heap.objs.size (·.pop)) _ _ _
  refine wpAny_bind (wpAny_updateSeq hS2 rfl ?_)
  have hS3 := Heap.get?_update_self (Obj.mapSeq (·.push Value.none)) hS2 rfl
  refine wpAny_updateSeq (hz := by seq_fits) hS3 rfl ?_
  have hS4 := Heap.get?_update_self (Obj.mapSeq (·.pop)) hS3 rfl
  have k4 := up _ (Obj.mapSeq (·.pop)) (up _ (Obj.mapSeq (·.push Value.none)) k2)
  refine wpAny_pure ⟨plainId_quiet F.plain_extend_loop _, ?_⟩
  have st4 : StZ _ z TI TO s.heap.objs.size (x :: L) 0 := (H s.heap.objs.size).keep P hSz.symm (Nat.ne_of_lt hti) (Nat.ne_of_lt hlt.2.1) (fun y hy => ⟨Nat.ne_of_lt (hlt.2.2 y hy).1, Nat.ne_of_lt (hlt.2.2 y hy).2⟩) (fun b o _ e => k4 b o e)
  refine loopZ (s := s) (A := A.in1) (h₁ := s.heap) hh P hSz.symm (Nat.ne_of_lt hti) (Nat.ne_of_lt hlt.2.1) (fun y hy => ⟨Nat.ne_of_lt (hlt.2.2 y hy).1, Nat.ne_of_lt (hlt.2.2 y hy).2⟩) hcol hl hend hn0 hn s.heap.objs.size ⟨Nat.le_of_lt hlt.1, Nat.le_of_lt hlt.2.1, Nat.le_refl _, fun y hy => Nat.le_of_lt (hlt.2.2 y hy).1⟩ .none
    (fun h' tk acc c as q1 q2 q3 q4 q5 => ⟨rfl, hQ h' tk acc c as q1 q2 q3 q4 q5⟩) n 0 _ s.toks _ #[] [] (Nat.sub_zero _) (Nat.zero_le _) st4 (fun b o _ _ _ _ e => k4 b o e) hS4 rfl rfl ⟨List.Pairwise.nil, (fun _ ha => nomatch ha), (fun j a hj => by simp at hj)⟩ (Heap.lt_size hS4)
end
end TW


set_option Elab.async false
set_option linter.all false
set_option maxRecDepth 100000
set_option maxHeartbeats 2000000
namespace TW
open PySem PySem.Spec PyProof.Rows L2
/-- many new tuples, tracked with their objects -/
def updL (H : Hp) : List (Addr × List V × List Value) → Hp
  | [] => H
  | p :: L => upd (updL H L) p.1 (.frz (TupO p.2.2) (.tup p.2.1))
theorem updL_ne {H : Hp} {a : Addr} : ∀ {L : List (Addr × List V × List Value)}, (∀ p ∈ L, p.1 ≠ a) → updL H L a = H a
  | [], _ => rfl
  | p :: L, h => by
    show upd (updL H L) p.1 _ a = _
    rw [upd_ne (h p (List.mem_cons_self ..)).symm]
    exact updL_ne fun q hq => h q (List.mem_cons_of_mem _ hq)
theorem updL_at {H : Hp} : ∀ {L : List (Addr × List V × List Value)}, (L.map (·.1)).Nodup → ∀ p ∈ L, updL H L p.1 = some (.frz (TupO p.2.2) (.tup p.2.1))
  | q :: L, nd, p, hp => by
    rw [List.map_cons, List.nodup_cons] at nd
    rcases List.mem_cons.mp hp with e | e
    · subst e
      exact upd_same
    · have ne : p.1 ≠ q.1 := fun z => nd.1 (by rw [← z]; exact List.mem_map.mpr ⟨p, e, rfl⟩)
      show upd (updL H L) q.1 _ p.1 = _
      rw [upd_ne ne]
      exact updL_at nd.2 p e
section
variable {X : Cx} {pins : List (Addr × Obj)} {σ : L2.St} {H : Hp} {s : Shared}
theorem inv_laidMany (I : Inv X pins σ H s) : ∀ (L : List (Addr × List V × List Value)) (h' : Heap), (∀ b o, s.heap.get? b = some o → h'.get? b = some o) → (L.map (·.1)).Nodup →
      (∀ p ∈ L, s.heap.objs.size ≤ p.1 ∧ h'.get? p.1 = some (TupO p.2.2) ∧ Vals p.2.1 p.2.2 ∧ p.2.1.length ≤ sizeLine) → ∀ t' : Nat, Inv X pins σ (updL H L) { s with heap := h', toks := t' }
  | [], h', k, _, _, t' => I.kept k
  | p :: L, h', k, nd, hp, t' => by
    rw [List.map_cons, List.nodup_cons] at nd
    obtain ⟨hn, hg, hv, hz⟩ := hp p (List.mem_cons_self ..)
    have hno : ∀ o, s.heap.get? p.1 ≠ some o := fun o e => absurd (Heap.lt_size e) (Nat.not_lt.mpr hn)
    obtain ⟨G, g1, g2⟩ := L2.restrict h' fun b => decide (b ≠ p.1)
    have gk : ∀ b o, b ≠ p.1 → h'.get? b = some o → G.get? b = some o := fun b o hb e => by rw [g1 b (decide_eq_true hb)]; exact e
    have ga : G.get? p.1 = none := g2 _ (by simp)
    have gr : ∀ b o, G.get? b = some o → h'.get? b = some o := fun b o e => by
      by_cases hb : b = p.1
      · rw [hb, ga] at e; cases e
      · rw [← g1 b (decide_eq_true hb)]; exact e
    have I1 := inv_laidMany I L G (fun b o e => gk b o (fun z => hno o (z ▸ e)) (k b o e)) nd.2 (fun q hq => by
      obtain ⟨a1, a2, a3, a4⟩ := hp q (List.mem_cons_of_mem _ hq)
      exact ⟨a1, gk _ _ (fun z => nd.1 (by rw [← z]; exact List.mem_map.mpr ⟨q, hq, rfl⟩)) a2, a3, a4⟩) s.toks
    have hH : updL H L p.1 = none := by
      rw [updL_ne fun q hq z => nd.1 (by rw [← z]; exact List.mem_map.mpr ⟨q, hq, rfl⟩)]
      exact I.hok.fresh hn
    exact I1.laidN (h' := h') (t' := t') gr ga hH ⟨hg, hz, p.2.2, hv, ⟨_, hg, rfl, _, rfl⟩⟩
end

/-! ### list(zip(*e)) -/
def vcol (ts : List (Addr × List V)) (j : Nat) : List V := ts.map fun t => t.2.getD j .non
def wcol (ts : List (Addr × List Value)) (j : Nat) : List Value := ts.map fun t => t.2.getD j .none
def NewZ (H : Hp) (ts : List (Addr × List V)) (n : Nat) (Q : V → Hp → Prop) : Prop := ∀ (L : List (Addr × List V × List Value)) (S : Addr), L.length = n → (L.map (·.1)).Nodup → (∀ p ∈ L, H p.1 = none ∧ p.1 ≠ S) → H S = none → (∀ (j : Nat) p, L[j]? = some p → p.2.1 = vcol ts j) →
  Q (.ref S) (upd (updL H L) S (.lst (L.map fun p => V.ref p.1)))
def tZip (K : PySem.W.Frag) (te : TE) : TE := fun σ H Q => te σ H fun x H1 => ∃ (a : Addr) (ts : List (Addr × List V)) (n : Nat), x = .ref a ∧ SqT K H1 a (ts.map fun t => V.ref t.1) ∧ (∀ t ∈ ts, SqT K H1 t.1 t.2 ∧ t.2.length = n) ∧ ts ≠ [] ∧ ts.length ≤ 6 ∧ 0 < n ∧ NewZ H1 ts n Q
theorem vcol_vals {n : Nat} : ∀ {ts : List (Addr × List V)} {us : List (Addr × List Value)}, us.length = ts.length → (∀ (j : Nat) t u, ts[j]? = some t → us[j]? = some u → Vals t.2 u.2 ∧ t.2.length = n) → ∀ i, i < n → Vals (vcol ts i) (wcol us i)
  | [], us, hl, _, _, _ => by
    cases us with
    | nil => exact .nil
    | cons a b => cases hl
  | t :: ts, us, hl, h, i, hi => by
    cases us with
    | nil => cases hl
    | cons u us =>
      obtain ⟨r, hn⟩ := h 0 t u rfl rfl
      have hv : t.2[i]? = some (t.2[i]'(by omega)) := List.getElem?_eq_getElem (by omega)
      obtain ⟨w, h1, h2⟩ := r.get hv
      refine .cons ?_ (vcol_vals (by simpa using hl) (fun j a b e1 e2 => h (j + 1) a b (by simpa using e1) (by simpa using e2)) i hi)
      show RelV (t.2.getD i V.non) (u.2.getD i Value.none)
      rw [List.getD_eq_getElem?_getD, List.getD_eq_getElem?_getD, hv, h1]
      exact h2
section
variable {X : Cx} {pins : List (Addr × Obj)} {σ : L2.St} {H : Hp} {s : Shared}
theorem tups_of (I : Inv X pins σ H s) {n : Nat} : ∀ (ts : List (Addr × List V)) (us : List Value), (∀ t ∈ ts, SqT X.K H t.1 t.2 ∧ t.2.length = n) → Vals (ts.map fun t => V.ref t.1) us →
    ∃ ws : List (Addr × List Value), us = ws.map (fun p => Value.ref p.1) ∧ ws.length = ts.length ∧ (∀ p ∈ ws, s.heap.IsTuple p.1 p.2.toArray ∧ p.2.length = n) ∧ ∀ (j : Nat) t w, ts[j]? = some t → ws[j]? = some w → Vals t.2 w.2 ∧ t.2.length = n
  | [], us, _, r => by
    cases r
    exact ⟨[], rfl, rfl, (fun p hp => by cases hp), fun j t w e => by simp at e⟩
  | t :: ts, us, h, r => by
    cases r with
    | cons r0 rr =>
      obtain ⟨ws, e, hl, h1, h2⟩ := tups_of I ts _ (fun t ht => h t (List.mem_cons_of_mem _ ht)) rr
      obtain ⟨hq, hn⟩ := h t (List.mem_cons_self ..)
      obtain ⟨its, rv, p', hz⟩ := I.tuple hq
      cases r0
      have hl2 := rv.length
      refine ⟨(t.1, its) :: ws, by rw [e]; rfl, by rw [List.length_cons, List.length_cons, hl], fun p hp => ?_, fun j a b e1 e2 => ?_⟩
      · rcases List.mem_cons.mp hp with q | q
        · subst q
          exact ⟨p', by show its.length = n; omega⟩
        · exact h1 p q
      · cases j with
        | zero =>
          simp at e1 e2
          subst e1 e2
          exact ⟨rv, hn⟩
        | succ j => exact h2 j a b (by simpa using e1) (by simpa using e2)

theorem vals_refs : ∀ as : List Addr, Vals (as.map V.ref) (as.map Value.ref)
  | [] => .nil
  | _ :: r => .cons rfl (vals_refs r)
theorem pe_zip {q : Bool} {e : Expr} {te : TE} {p p2 p3 p4 pos : Pos} (hc : X.calm = true) (N : Bn X "list" (.type "list")) (N2 : Bn X "zip" (.type "zip")) (he : PE X e te) :
    PE X (.Call (.Name "list" p) [.Call (.Name "zip" p2) [.Starred e p3] [] p4] [] pos) (tZip X.K te) := by
  refine ⟨fun pins s σ H Q I h => ?_⟩
  have na : starEach [Expr.Call (.Name "zip" p2) [.Starred e p3] [] p4] X.env = (false, eval (.Call (.Name "zip" p2) [.Starred e p3] [] p4) X.env) :: starEach [] X.env := by rfl
  refine Call_ (ld_blt I N.hg N.hm N.hv (PyProof.Rows.callWith_type1 (args_cons ?_ na) na) N.hn N.hd)
  refine Call_ (ld_blt I N2.hg N2.hm N2.hv ?_ N2.hn N2.hd)
  show wpAny _ _ (callWith p4 (.type "zip") [] (backTo p4 (starEach [.Starred e p3] X.env)) []) _ _ _
  rw [show starEach [.Starred e p3] X.env = [(true, eval e X.env)] from rfl]
  refine PySem.W.ks_call (P := fun _ => True) rfl (fun _ _ => ⟨_, .inr (.inl rfl), PySem.W.Looks.of_pure rfl⟩) (PySem.W.ks_lone ?_)
  refine thn (he.run pins s σ H _ I h) fun v s1 ⟨y, H1, I1, ry, a, ts, n, ey, hq, ht, hne, h6, hn0, hz⟩ => ?_
  subst ey
  obtain rfl : v = Value.ref a := ry
  refine star_tup I1 hq fun us s2 I2 rv => ⟨trivial, ?_⟩
  obtain ⟨ws, rfl, hwl, hw1, hw2⟩ := tups_of I2 ts us ht rv
  show wpAny _ _ (call (.type "zip") (ws.map fun p => Value.ref p.1)) _ _ _
  have hwne : ws ≠ [] := fun z => hne (List.eq_nil_of_length_eq_zero (by rw [← hwl, z]; rfl))
  refine call_zipN hwne (by omega) (fun p hp => (hw1 p hp).1) fun h1 its z TI TO b1 b2 b3 b4 b5 b6 b7 b8 b9 b10 b11 => args_nil ?_
  have hl0 : its.length = ws.length := b1
  let L3 : List TI3 := (its.zip ws).map fun p => (⟨p.1, p.2.1, p.2.2⟩ : TI3)
  have e3 : L3.map (·.it) = its := by
    show ((its.zip ws).map _).map _ = its
    rw [List.map_map]
    exact List.map_fst_zip (Nat.le_of_eq hl0)
  have e4 : (L3.map fun x => Value.ref x.it) = its.map Value.ref := (List.map_map (l := L3) (f := fun x : TI3 => x.it) (g := Value.ref)).symm.trans (congrArg (List.map Value.ref) e3)
  have hL3 : L3.length = ws.length := ((List.length_map (as := L3) (fun x : TI3 => x.it)).symm.trans (congrArg List.length e3)).trans hl0
  have at3 : ∀ (j : Nat) x, L3[j]? = some x → ∃ it w, its[j]? = some it ∧ ws[j]? = some w ∧ x = ⟨it, w.1, w.2⟩ := by
    intro j x hx
    have hx' : ((its.zip ws).map fun p => (⟨p.1, p.2.1, p.2.2⟩ : TI3))[j]? = some x := hx
    rw [List.getElem?_map] at hx'
    obtain ⟨⟨it, w⟩, q1, q2⟩ := Option.map_eq_some_iff.mp hx'
    rw [List.getElem?_zip_eq_some] at q1
    exact ⟨it, w, q1.1, q1.2, q2.symm⟩
  have mem3 : ∀ x ∈ L3, ∃ (j : Nat) (it : Addr) (w : Addr × List Value), its[j]? = some it ∧ ws[j]? = some w ∧ x = ⟨it, w.1, w.2⟩ := fun x hx => by
    obtain ⟨j, hj⟩ := List.mem_iff_getElem?.mp hx
    exact ⟨j, at3 j x hj⟩
  have fact : ∀ x ∈ L3, s2.heap.objs.size ≤ x.it ∧ x.it < TI ∧ x.t < s2.heap.objs.size ∧ x.row.length = n ∧ AtI h1 0 x := fun x hx => by
    obtain ⟨j, it, w, q1, q2, rfl⟩ := mem3 x hx
    obtain ⟨c1, c2⟩ := b3 it (List.mem_of_getElem? q1)
    obtain ⟨d1, d2⟩ := hw1 w (List.mem_of_getElem? q2)
    have d3 : w.1 < s2.heap.objs.size := by obtain ⟨o, ho, _⟩ := d1; exact Heap.lt_size ho
    exact ⟨c1, c2, d3, d2, b5 j it w q1 q2, d1.at fun o e => b2 _ o e⟩
  have hzl : z < h1.objs.size := Heap.lt_size b6
  have P : ZSep z TI TO L3 := by
    refine ⟨⟨by rw [e3]; exact b4, fun x hx y hy => ?_⟩, Nat.ne_of_gt (Nat.lt_trans b9 b10), Nat.ne_of_gt b10, Nat.ne_of_lt b9, fun x hx => ?_⟩
    · exact Nat.ne_of_lt (Nat.lt_of_lt_of_le (fact x hx).2.2.1 (fact y hy).1)
    · obtain ⟨c1, c2, c3, _⟩ := fact x hx
      exact ⟨Nat.ne_of_lt (Nat.lt_trans c2 (Nat.lt_trans b9 b10)), Nat.ne_of_lt c2, Nat.ne_of_lt (Nat.lt_trans c2 b9), Nat.ne_of_lt (Nat.lt_of_lt_of_le c3 (Nat.le_trans b11 (Nat.le_of_lt (Nat.lt_trans b9 b10)))), Nat.ne_of_lt (Nat.lt_of_lt_of_le c3 (Nat.le_trans b11 (Nat.le_of_lt b9)))⟩
  have hcol : ∀ i, i < n → Col L3 i (wcol ws i) := fun i hi => by
    refine ⟨by unfold wcol; rw [List.length_map, hL3], fun j x hx => ?_⟩
    obtain ⟨it, w, q1, q2, rfl⟩ := at3 j x hx
    unfold wcol
    rw [List.getElem?_map, q2]
    have := (hw1 w (List.mem_of_getElem? q2)).2
    show w.2[i]? = some (w.2.getD i .none)
    rw [List.getD_eq_getElem?_getD, List.getElem?_eq_getElem (by omega : i < w.2.length)]
    rfl
  have hn1 : n ≤ sizeLine := by
    obtain ⟨t, ht'⟩ := List.exists_mem_of_ne_nil _ hne
    obtain ⟨q1, q2⟩ := ht t ht'
    obtain ⟨_, _, _, zz⟩ := I2.tuple q1
    omega
  have hl6 : L3.length ≤ 6 := by rw [hL3, hwl]; exact h6
  have sl : (6 : Nat) ≤ sizeLine := by rw [sizeLine_eq]; decide
  clear_value L3
  cases L3 with
  | nil => exact absurd (List.eq_nil_of_length_eq_zero hL3.symm) hwne
  | cons x L =>
    refine call_list_zipN (s := { s2 with heap := h1 }) (col := wcol ws) (n := n) (by exact I2.ok.hd hc) P (fun S => .inl ⟨rfl, b6, by rw [e4]; exact b7, ⟨_, b8, by rw [List.length_map, hl0, hL3]⟩, fun y hy => (fact y hy).2.2.2.2⟩) hcol (Nat.le_trans hl6 sl)
      (by rw [List.getElem?_eq_none]; exact Nat.le_of_eq (fact x (List.mem_cons_self ..)).2.2.2.1) hn0 hn1 (Nat.lt_trans (Nat.lt_trans b9 b10) hzl) ⟨hzl, Nat.lt_trans b10 hzl, fun y hy => ⟨Nat.lt_trans (fact y hy).2.1 (Nat.lt_trans (Nat.lt_trans b9 b10) hzl), Nat.lt_of_lt_of_le (fact y hy).2.2.1 (Nat.le_trans b11 (Nat.le_of_lt (Nat.lt_trans (Nat.lt_trans b9 b10) hzl)))⟩⟩
      fun h' tk acc c as k1 k2 k3 k4 k5 => ?_
    have kk : ∀ b o, s2.heap.get? b = some o → h'.get? b = some o := fun b o e => by
      have hb := Heap.lt_size e
      refine k1 b o (Nat.ne_of_lt (Nat.lt_of_lt_of_le hb (Nat.le_trans b11 (Nat.le_of_lt (Nat.lt_trans (Nat.lt_trans b9 b10) hzl))))) (Nat.ne_of_lt (Nat.lt_of_lt_of_le hb (Nat.le_trans b11 (Nat.le_of_lt (Nat.lt_trans b9 b10))))) (Nat.ne_of_lt (Nat.lt_of_lt_of_le hb (Nat.le_trans b11 (Nat.le_of_lt b9)))) (fun y hy => Nat.ne_of_lt (Nat.lt_of_lt_of_le hb (fact y hy).1)) (b2 b o e)
    have hbig : s2.heap.objs.size ≤ h1.objs.size := Nat.le_trans b11 (Nat.le_of_lt (Nat.lt_trans (Nat.lt_trans b9 b10) hzl))
    let LL : List (Addr × List V × List Value) := as.zipIdx.map fun p => (p.1, vcol ts p.2, wcol ws p.2)
    have eL : LL.map (·.1) = as := by
      show (as.zipIdx.map _).map _ = as
      rw [List.map_map]
      exact List.zipIdx_map_fst 0 as
    have lL : LL.length = n := ((List.length_map (as := LL) (fun x => x.1)).symm.trans (congrArg List.length eL)).trans k3
    have atL : ∀ (j : Nat) p, LL[j]? = some p → j < n ∧ as[j]? = some p.1 ∧ p.2 = (vcol ts j, wcol ws j) := fun j p hp => by
      have hp' : (as.zipIdx.map fun p => (p.1, vcol ts p.2, wcol ws p.2))[j]? = some p := hp
      rw [List.getElem?_map, List.getElem?_zipIdx] at hp'
      obtain ⟨u, q1, q2⟩ := Option.map_eq_some_iff.mp hp'
      obtain ⟨w, q3, q4⟩ := Option.map_eq_some_iff.mp q1
      have hj : j < as.length := (List.getElem?_eq_some_iff.mp q3).1
      subst q2 q4
      exact ⟨by omega, q3, by simp⟩
    have ndA : as.Nodup := k4.rise.imp fun h => Nat.ne_of_lt h
    have hS0 : H1 h1.objs.size = none := I2.hok.fresh hbig
    have memL : ∀ p ∈ LL, ∃ j, j < n ∧ as[j]? = some p.1 ∧ p.2 = (vcol ts j, wcol ws j) := fun p hp => by
      obtain ⟨j, hj⟩ := List.mem_iff_getElem?.mp hp
      exact ⟨j, atL j p hj⟩
    have abv : ∀ p ∈ LL, h1.objs.size < p.1 := fun p hp => by
      obtain ⟨j, _, q, _⟩ := memL p hp
      exact k4.above _ (List.mem_of_getElem? q)
    obtain ⟨G, g1, g2⟩ := L2.restrict h' fun b => decide (b ≠ h1.objs.size)
    have gk : ∀ b o, b ≠ h1.objs.size → h'.get? b = some o → G.get? b = some o := fun b o hb e => by rw [g1 b (decide_eq_true hb)]; exact e
    have ga : G.get? h1.objs.size = none := g2 _ (by simp)
    have gr : ∀ b o, G.get? b = some o → h'.get? b = some o := fun b o e => by
      by_cases hb : b = h1.objs.size
      · rw [hb, ga] at e; cases e
      · rw [← g1 b (decide_eq_true hb)]; exact e
    have I3 := inv_laidMany I2 LL G (fun b o e => gk b o (Nat.ne_of_lt (Nat.lt_of_lt_of_le (Heap.lt_size e) hbig)) (kk b o e)) (by rw [eL]; exact ndA) (fun p hp => by
      obtain ⟨j, hj, q1, q2⟩ := memL p hp
      rw [q2]
      refine ⟨Nat.le_trans hbig (Nat.le_of_lt (abv p hp)), gk _ _ (Nat.ne_of_gt (abv p hp)) (k4.tup j _ q1), vcol_vals hwl hw2 j hj, ?_⟩
      unfold vcol
      rw [List.length_map]
      omega) s2.toks
    have hHS : updL H1 LL h1.objs.size = none := by rw [updL_ne fun p hp => Nat.ne_of_gt (abv p hp)]; exact hS0
    refine ⟨.ref h1.objs.size, upd (updL H1 LL) h1.objs.size (.lst (LL.map fun p => V.ref p.1)), I3.laidN (h' := h') (t' := tk) gr ga hHS ⟨?_, acc.toList, c, ?_, ?_⟩, rfl, hz LL h1.objs.size lL (by rw [eL]; exact ndA) (fun p hp => ⟨I2.hok.fresh (Nat.le_trans hbig (Nat.le_of_lt (abv p hp))), Nat.ne_of_gt (abv p hp)⟩) hS0 fun j p hp => by rw [(atL j p hp).2.2]⟩
    · rw [List.length_map, lL]; exact hn1
    · have e5 : LL.map (fun p => V.ref p.1) = as.map V.ref := (List.map_map (l := LL) (f := fun x : Addr × List V × List Value => x.1) (g := V.ref)).symm.trans (congrArg (List.map V.ref) eL)
      rw [k5, e5]
      exact vals_refs as
    · rw [Array.toArray_toList]; exact k2
end
end TW


set_option Elab.async false
set_option linter.all false
set_option maxRecDepth 100000
set_option maxHeartbeats 2000000
namespace TW
open PySem PySem.Spec PyProof.Rows L2
def zipOk : List (List PyData) → Bool
  | [] => false
  | r :: rs => decide (0 < r.length ∧ rs.length ≤ 5) && rs.all fun x => x.length == r.length
def zipT (o : Option (List (List PyData))) : Sm M := match o with
  | some rows => if zipOk rows = true then sret (.ml ((colsOf (rows.headD []).length rows).map .fz)) else sfail
  | none => sfail
/-- list(zip(*d)): rows of one length -/
def sZipT : PyData → Sm M
  | .tuple ds => zipT (tupsOf ds)
  | _ => sfail
theorem zipOk_facts {rows : List (List PyData)} (h : zipOk rows = true) : rows ≠ [] ∧ rows.length ≤ 6 ∧ 0 < (rows.headD []).length ∧ ∀ r ∈ rows, r.length = (rows.headD []).length := by
  cases rows with
  | nil => cases h
  | cons r rs =>
    have h' : (decide (0 < r.length ∧ rs.length ≤ 5) && rs.all fun x => x.length == r.length) = true := h
    rw [Bool.and_eq_true] at h'
    obtain ⟨h1, h2⟩ := h'
    have h1 := of_decide_eq_true h1
    refine ⟨by simp, by rw [List.length_cons]; omega, h1.1, fun x hx => ?_⟩
    rcases List.mem_cons.mp hx with q | q
    · rw [q]; rfl
    · have := List.all_eq_true.mp h2 x q
      simpa using this
section
variable {K : PySem.W.Frag} {mg : Str → Option Value} {W : Wl} {H : Hp} {σ : L2.St}
theorem Sat.growL (S : Sat K mg W H σ) : ∀ (L : List (Addr × List V × List Value)), (L.map (·.1)).Nodup → (∀ p ∈ L, H p.1 = none) → Sat K mg ⟨fun a => W.F a ∨ a ∈ L.map (·.1), W.ev, W.ow⟩ (updL H L) σ
  | [], _, _ => by
    have e : (fun a => W.F a ∨ a ∈ ([] : List (Addr × List V × List Value)).map (·.1)) = W.F := by
      funext a
      simp
    rw [e]
    exact S
  | p :: L, nd, h => by
    rw [List.map_cons, List.nodup_cons] at nd
    have S1 := Sat.growL S L nd.2 fun q hq => h q (List.mem_cons_of_mem _ hq)
    have hn : updL H L p.1 = none := by
      rw [updL_ne fun q hq z => nd.1 (by rw [← z]; exact List.mem_map.mpr ⟨q, hq, rfl⟩)]
      exact h p (List.mem_cons_self ..)
    have S2 := S1.growF (p := p.1) (o := .frz (TupO p.2.2) (.tup p.2.1)) hn
    have e : (fun a => W.F a ∨ a ∈ (p :: L).map (·.1)) = fun a => (W.F a ∨ a ∈ L.map (·.1)) ∨ a = p.1 := by
      funext a
      apply propext
      rw [List.map_cons, List.mem_cons]
      exact ⟨fun z => z.elim (fun y => .inl (.inl y)) fun z => z.elim (fun y => .inr y) fun y => .inl (.inr y), fun z => z.elim (fun y => y.elim .inl fun y => .inr (.inr y)) fun y => .inr (.inl y)⟩
    rw [e]
    exact S2
theorem updL_keep : ∀ {L : List (Addr × List V × List Value)}, (∀ p ∈ L, H p.1 = none) → ∀ a u, H a = some u → updL H L a = some u := fun {L} h a u e => by
  rw [updL_ne fun p hp z => by rw [← z, h p hp] at e; cases e]
  exact e
theorem tups_rp {F : Addr → Prop} : ∀ {ds : List PyData} {rows : List (List PyData)} {vs : List V}, tupsOf ds = some rows → RpL F H ds vs → ∃ ts : List (Addr × List V), vs = ts.map (fun t => V.ref t.1) ∧ ts.length = rows.length ∧
      (∀ t ∈ ts, F t.1 ∧ Tp H t.1 t.2) ∧ ∀ (j : Nat) t r, ts[j]? = some t → rows[j]? = some r → RpL F H r t.2
  | [], rows, vs, e, h => by
    cases e
    cases h
    exact ⟨[], rfl, rfl, (fun t ht => by cases ht), fun j t r e => by simp at e⟩
  | .tuple b :: ds, rows, vs, e, h => by
    have e' : (tupsOf ds).map (b :: ·) = some rows := e
    obtain ⟨rs, q1, q2⟩ := Option.map_eq_some_iff.mp e'
    obtain ⟨v, r, ev, h1, h2⟩ := h
    obtain ⟨ts, a1, a2, a3, a4⟩ := tups_rp q1 h2
    obtain ⟨a, us, ea, f, tp, rr⟩ := h1
    subst q2 ev ea a1
    refine ⟨(a, us) :: ts, rfl, by rw [List.length_cons, List.length_cons, a2], fun t ht => ?_, fun j t r e1 e2 => ?_⟩
    · rcases List.mem_cons.mp ht with y | y
      · subst y; exact ⟨f, tp⟩
      · exact a3 t y
    · cases j with
      | zero =>
        simp at e1 e2
        subst e1 e2
        exact rr
      | succ j => exact a4 j t r (by simpa using e1) (by simpa using e2)
  | .none :: _, _, _, e, _ => by cases e
  | .bool _ :: _, _, _, e, _ => by cases e
  | .int _ :: _, _, _, e, _ => by cases e
  | .str _ :: _, _, _, e, _ => by cases e
  | .list _ :: _, _, _, e, _ => by cases e
  | .dict _ :: _, _, _, e, _ => by cases e
theorem col_rp {F : Addr → Prop} {n : Nat} : ∀ {ts : List (Addr × List V)} {rows : List (List PyData)}, ts.length = rows.length → (∀ (j : Nat) t r, ts[j]? = some t → rows[j]? = some r → RpL F H r t.2) → (∀ r ∈ rows, r.length = n) → ∀ i, i < n → RpL F H (rows.map fun r => r.getD i .none) (vcol ts i)
  | [], rows, hl, _, _, _, _ => by
    cases rows with
    | nil => rfl
    | cons a b => cases hl
  | t :: ts, rows, hl, h, hn, i, hi => by
    cases rows with
    | nil => cases hl
    | cons r rows =>
      have hr := hn r (List.mem_cons_self ..)
      have hd : r[i]? = some (r[i]'(by omega)) := List.getElem?_eq_getElem (by omega)
      obtain ⟨v, h1, h2⟩ := (h 0 t r rfl rfl).get hd
      refine ⟨v, vcol ts i, ?_, ?_, col_rp (by simpa using hl) (fun j a b e1 e2 => h (j + 1) a b (by simpa using e1) (by simpa using e2)) (fun r' hr' => hn r' (List.mem_cons_of_mem _ hr')) i hi⟩
      · show t.2.getD i V.non :: vcol ts i = _
        rw [List.getD_eq_getElem?_getD, h1]
        rfl
      · show Rp F H (r.getD i .none) v
        rw [List.getD_eq_getElem?_getD, hd]
        exact h2
theorem rpms_cols {F : Addr → Prop} {f : Nat → PyData} : ∀ {L : List (Addr × List V × List Value)} (k : Nat), (∀ (j : Nat) p, L[j]? = some p → Rp F H (f (k + j)) (.ref p.1)) → RpMs K mg F H (((List.range' k L.length).map f).map .fz) (L.map fun p => V.ref p.1) []
  | [], k, _ => ⟨rfl, rfl⟩
  | p :: L, k, h => by
    refine ⟨.ref p.1, L.map fun p => V.ref p.1, [], [], rfl, rfl, ⟨rfl, h 0 p rfl⟩, ?_⟩
    exact rpms_cols (k + 1) fun j q hq => by
      have := h (j + 1) q (by simpa using hq)
      rwa [show k + (j + 1) = k + 1 + j by omega] at this
end
section
variable {X : Cx} {Ex : XK} {q : Bool} {a : Expr} {pos p p2 p3 p4 : Pos} {fa : Sm PyData} {x y : Str}
theorem ge_zipT (hc : X.calm = true) (N : Bn X "list" (.type "list")) (N2 : Bn X "zip" (.type "zip")) (ha : GE X Ex q RF a fa) : GE X Ex q RE (.Call (.Name "list" p) [.Call (.Name "zip" p2) [.Starred a p3] [] p4] [] pos) (bd fa sZipT) := by
  refine pe_weak (pe_zip (q := q) hc N N2 ha) fun σ H Q z h => ?_
  refine h.first fun d v W H1 r S z1 hr k => ?_
  have k := k hr.1
  cases d with
  | tuple ds =>
    cases e1 : tupsOf ds with
    | none => exact (no_of k (by show zipT (tupsOf ds) _ = _; rw [e1]; rfl)).elim
    | some rows =>
      by_cases e2 : zipOk rows = true
      · have e3 : sZipT (.tuple ds) = sret (.ml ((colsOf (rows.headD []).length rows).map .fz)) := by show zipT (tupsOf ds) = _; rw [e1]; exact if_pos e2
        rw [e3] at k
        obtain ⟨f1, f2, f3, f4⟩ := zipOk_facts e2
        obtain ⟨a, vs, ev, fa', tp, rl⟩ := hr.2
        obtain ⟨ts, t1, t2, t3, t4⟩ := tups_rp e1 rl
        subst t1
        have rl4 : ∀ t ∈ ts, t.2.length = (rows.headD []).length := fun t ht => by
          obtain ⟨j, hj⟩ := List.mem_iff_getElem?.mp ht
          have hj2 : j < rows.length := by rw [← t2]; exact (List.getElem?_eq_some_iff.mp hj).1
          rw [RpL.length (t4 j t rows[j] hj (List.getElem?_eq_getElem hj2))]
          exact f4 _ (List.getElem_mem _)
        refine ⟨a, ts, (rows.headD []).length, ev, tp.sq, fun t ht => ⟨(t3 t ht).2.sq, rl4 t ht⟩, fun zz => f1 (List.eq_nil_of_length_eq_zero (by rw [← t2, zz]; rfl)), by omega, f3, ?_⟩
        intro L Sx hl nd hL hS hv z2
        have hLn : ∀ p ∈ L, H1 p.1 = none := fun p hp => (hL p hp).1
        have hSL : updL H1 L Sx = none := by rw [updL_ne fun p hp => (hL p hp).2]; exact hS
        have S1 := S.growL L nd hLn
        have S2 := S1.grow (p := Sx) (o := .lst (L.map fun p => V.ref p.1)) hSL
        have kp : ∀ a u, H1 a = some u → upd (updL H1 L) Sx (.lst (L.map fun p => V.ref p.1)) a = some u := fun a u e => keep_upd hSL a u (updL_keep hLn a u e)
        refine k (.ref Sx) ⟨fun a => W.F a ∨ a ∈ L.map (·.1), W.ev, W.ow⟩ _ [Sx] rfl S2 z2 ⟨⟨Sx, _, [], rfl, upd_same, rfl, ?_⟩, by simp, fun b hb => ?_⟩ ⟨fun _ y => .inl y, fun b u y _ => kp b u y, fun b y => ?_, fun b y => ?_⟩ fun _ => ⟨rfl, rfl, kp⟩
        · have e5 : (colsOf (rows.headD []).length rows).map M.fz = ((List.range' 0 L.length).map fun j => PyData.tuple (rows.map fun r => r.getD j .none)).map M.fz := by
            unfold colsOf
            rw [hl, List.range_eq_range']
          rw [e5]
          refine rpms_cols 0 fun j p hp => ?_
          have hj : j < (rows.headD []).length := by rw [← hl]; exact (List.getElem?_eq_some_iff.mp hp).1
          have hm := List.mem_of_getElem? hp
          refine ⟨p.1, p.2.1, rfl, .inr (List.mem_map.mpr ⟨p, hm, rfl⟩), ⟨TupO p.2.2, rfl, keep_upd hSL _ _ (updL_at nd p hm)⟩, ?_⟩
          rw [hv j p hp, Nat.zero_add]
          exact RpL.keep' (fun _ y => .inl y) kp (col_rp t2 t4 f4 j hj)
        · have e : b = Sx := by simpa using hb
          subst e
          refine ⟨fun y => ?_, fun y => S.ownT y hS⟩
          rcases y with y | y
          · exact S.ft _ y hS
          · obtain ⟨p, hp, e⟩ := List.mem_map.mp y
            exact (hL p hp).2 e
        · rcases y with y | y
          · exact .inl y
          · obtain ⟨p, hp, e⟩ := List.mem_map.mp y
            exact .inr (.inr (by rw [← e]; exact hLn p hp))
        · rcases y with y | y
          · exact .inl y
          · have e : b = Sx := by simpa using y
            subst e
            exact .inr hS
      · have e3 : sZipT (.tuple ds) = sfail := by
          show zipT (tupsOf ds) = _
          rw [e1]
          exact if_neg e2
        exact (no_of k (by rw [e3]; rfl)).elim
  | _ => exact (no_of k rfl).elim
end
end TW


set_option Elab.async false
set_option linter.all false
set_option maxRecDepth 100000
set_option maxHeartbeats 0
namespace Hd
open PySem PySem.Spec PyProof.Rows L2
def top (i : Nat) : Stmt := PySem.Challenge.pw_twosquare_k82_whole_heaps_and_paths.main.body.getD i (.Pass ⟨0, 0, 0, 0⟩)
def d0 : He.DefD := ⟨("is_number", none), "is_number", "is_number", defArgs (top 5), defBody (top 5), defScope (top 5), [], []⟩
def d1 : He.DefD := ⟨("check_box", none), "check_box", "check_box", defArgs (top 8), defBody (top 8), defScope (top 8), [], []⟩
def d2 : He.DefD := ⟨("check_heap", none), "check_heap", "check_heap", defArgs (top 9), defBody (top 9), defScope (top 9), [], []⟩
def d3 : He.DefD := ⟨("places_of", none), "places_of", "places_of", defArgs (top 10), defBody (top 10), defScope (top 10), [], []⟩
def d4 : He.DefD := ⟨("many_heaps", none), "many_heaps", "many_heaps", defArgs (top 11), defBody (top 11), defScope (top 11), [], []⟩
def d5 : He.DefD := ⟨("count_heaps", none), "count_heaps", "count_heaps", defArgs (top 12), defBody (top 12), defScope (top 12), [], []⟩
def d6 : He.DefD := ⟨("many_mirrored", none), "many_mirrored", "many_mirrored", defArgs (top 13), defBody (top 13), defScope (top 13), [], []⟩
def d7 : He.DefD := ⟨("count_alike", none), "count_alike", "count_alike", defArgs (top 14), defBody (top 14), defScope (top 14), [], []⟩
def d8 : He.DefD := ⟨("sizes", none), "sizes", "sizes", defArgs (top 15), defBody (top 15), defScope (top 15), [], []⟩
def d9 : He.DefD := ⟨("mirror", none), "mirror", "mirror", defArgs (top 16), defBody (top 16), defScope (top 16), [], []⟩
def d10 : He.DefD := ⟨("other_side", none), "other_side", "other_side", defArgs (top 17), defBody (top 17), defScope (top 17), [], []⟩
def d11 : He.DefD := ⟨("rolled", none), "rolled", "rolled", defArgs (top 18), defBody (top 18), defScope (top 18), [], []⟩
def d12 : He.DefD := ⟨("path_of", none), "path_of", "path_of", defArgs (top 19), defBody (top 19), defScope (top 19), [], []⟩
def d13 : He.DefD := ⟨("paths_of", none), "paths_of", "paths_of", defArgs (top 20), defBody (top 20), defScope (top 20), [], []⟩
def d14 : He.DefD := ⟨("points_of", none), "points_of", "points_of", defArgs (top 21), defBody (top 21), defScope (top 21), [], []⟩
def d15 : He.DefD := ⟨("row_of", none), "row_of", "row_of", defArgs (top 22), defBody (top 22), defScope (top 22), [], []⟩
def d16 : He.DefD := ⟨("heap_of", none), "heap_of", "heap_of", defArgs (top 23), defBody (top 23), defScope (top 23), [], []⟩
def d17 : He.DefD := ⟨("_law_cell", none), "_law_cell", "_law_cell", defArgs (top 25), defBody (top 25), defScope (top 25), [], []⟩
def d18 : He.DefD := ⟨("_law_stream", none), "_law_stream", "_law_stream", defArgs (top 26), defBody (top 26), defScope (top 26), [], []⟩
def d19 : He.DefD := ⟨("_law_draw", none), "_law_draw", "_law_draw", defArgs (top 27), defBody (top 27), defScope (top 27), [], []⟩
def d20 : He.DefD := ⟨("_law_common", none), "_law_common", "_law_common", defArgs (top 28), defBody (top 28), defScope (top 28), [], []⟩
def d21 : He.DefD := ⟨("_law_heaps", none), "_law_heaps", "_law_heaps", defArgs (top 29), defBody (top 29), defScope (top 29), [], []⟩
def d22 : He.DefD := ⟨("_law_drawn", none), "_law_drawn", "_law_drawn", defArgs (top 30), defBody (top 30), defScope (top 30), [], []⟩
def d23 : He.DefD := ⟨("_law_mirror", none), "_law_mirror", "_law_mirror", defArgs (top 31), defBody (top 31), defScope (top 31), [], []⟩
def d24 : He.DefD := ⟨("_law_other", none), "_law_other", "_law_other", defArgs (top 32), defBody (top 32), defScope (top 32), [], []⟩
def d25 : He.DefD := ⟨("_law_rolled", none), "_law_rolled", "_law_rolled", defArgs (top 33), defBody (top 33), defScope (top 33), [], []⟩
def d26 : He.DefD := ⟨("_law_paths", none), "_law_paths", "_law_paths", defArgs (top 34), defBody (top 34), defScope (top 34), [], []⟩
def d27 : He.DefD := ⟨("_law_meet", none), "_law_meet", "_law_meet", defArgs (top 35), defBody (top 35), defScope (top 35), [], []⟩
def d28 : He.DefD := ⟨("_law_number", none), "_law_number", "_law_number", defArgs (top 36), defBody (top 36), defScope (top 36), [], []⟩
def d29 : He.DefD := ⟨("_law_times", none), "_law_times", "_law_times", defArgs (top 37), defBody (top 37), defScope (top 37), [], []⟩
def d30 : He.DefD := ⟨("_law_alike", none), "_law_alike", "_law_alike", defArgs (top 38), defBody (top 38), defScope (top 38), [], []⟩
def d31 : He.DefD := ⟨("_law_small", none), "_law_small", "_law_small", defArgs (top 39), defBody (top 39), defScope (top 39), [], []⟩
def d32 : He.DefD := ⟨("law", none), "law", "law", defArgs (top 40), defBody (top 40), defScope (top 40), [], []⟩
def fn : List He.DefD := [d0, d1, d2, d3, d4, d5, d6, d7, d8, d9, d10, d11, d12, d13, d14, d15, d16, d17, d18, d19, d20, d21, d22, d23, d24, d25, d26, d27, d28, d29, d30, d31, d32]
def fa : List He.Fa := [.glo "is_number", .glo "check_box", .glo "check_heap", .glo "places_of", .glo "many_heaps", .glo "count_heaps", .glo "many_mirrored", .glo "count_alike", .glo "sizes", .glo "mirror", .glo "other_side", .glo "rolled", .glo "path_of", .glo "paths_of", .glo "points_of", .glo "row_of", .glo "heap_of", .glo "_law_cell", .glo "_law_stream", .glo "_law_draw", .glo "_law_common", .glo "_law_heaps", .glo "_law_drawn", .glo "_law_mirror", .glo "_law_other", .glo "_law_rolled", .glo "_law_paths", .glo "_law_meet", .glo "_law_number", .glo "_law_times", .glo "_law_alike", .glo "_law_small", .glo "law", .glo "SquareError", .exc "SquareError", .glo "BadHeap", .exc "BadHeap", .glo "OutOfRange", .exc "OutOfRange", .int "LONGEST" 6, .free "isinstance", .free "int", .free "tuple", .free "list", .free "len", .free "all", .free "any", .free "range", .free "abs", .free "min", .free "sum", .free "repr", .free "zip", .free "enumerate", .free "ValueError"]
abbrev R : PySem.W.OpenRow := PySem.W.OpenLaw.row PySem.Challenge.rw_twosquare_k82_whole_heaps_and_paths
abbrev hk : PySem.W.Hook := He.hookD 4 fa fn
def ob (s : PySem.W.SharedT) : He.AlD := He.obsDG 4 fa fn (HandSHeadRun.getT s)
theorem ob_eq (s : PySem.W.SharedT) : ob s = hk.obs s.abs := He.obsDG_eq (HandSHeadRun.getT_eq s)
def loose0 : List PySem.Str := ["SquareError", "BadHeap", "OutOfRange", "is_number", "LONGEST", "check_box", "check_heap", "places_of", "many_heaps", "count_heaps", "many_mirrored", "count_alike", "sizes", "mirror", "other_side", "rolled", "path_of", "paths_of", "points_of", "row_of", "heap_of", "_law_cell", "_law_stream", "_law_draw", "_law_common", "_law_heaps", "_law_drawn", "_law_mirror", "_law_other", "_law_rolled"]
def loose1 : List PySem.Str := ["_law_paths", "_law_meet", "_law_number", "_law_times", "_law_alike", "_law_small"]
def loose : List PySem.Str := loose0 ++ loose1
theorem run (w : World) : HandSHeadRun.RunEq R (PySem.W.view R.prog [40]) hk ob 3000 loose w := by
  intro os
  kernel_rfl
end Hd
-- law at 40 defs 33


set_option Elab.async false
set_option linter.all false
set_option maxRecDepth 100000
set_option maxHeartbeats 4000000
namespace TW
open PySem PySem.Spec PyProof.Rows L2
def s__law_cell : Sm Fl :=
  (sRt (sIf (bd (vF 1) fun d => bd (bd (vO 0) sLen) fun e => sCmp .Lt d e) (bd (bd (bd (vO 0) fun d => bd (vF 1) fun e => TW.sIx d e) sIntOf) fun d => sret (.fz d)) (bd (sret (.int 0)) fun d => sret (.fz d))))

def F__law_cell : FS := fnRun 2 2 [0, 1] s__law_cell

def s__law_stream : Sm Fl :=
  (sRt (bd (sConsE (bd (bd (bd (sCall F__law_cell (sArgS 0 (sArgV (vF 1) (sret [])))) fun m => sopt (frz m)) sAbs) fun d => sret (.fz d)) (sConsE (bd (bd (bd (bd (sCall F__law_cell (sArgS 0 (sArgV (vF 1) (sret [])))) fun m => sopt (frz m)) sAbs) fun d => bd (sret (.int 1000003)) fun e => sMod d e) fun d => bd (sret (.int 7)) fun e => sAdd d e) sNilE)) fun ms => sret (.ml ms)))

def F__law_stream : FS := fnRun 2 2 [0, 1] s__law_stream

def s__law_number_f0 : Sm Fl :=
  (sSeq (sSet 2 (bd (vF 2) fun d => bd (bd (bd (bd (bd (bd (vF 1) fun d => bd (vF 4) fun e => sAdd d e) fun m => sopt (frz m)) fun d => bd (vF 5) fun e => sAdd d e) fun m => sopt (frz m)) fun d => bd (sret (.int 1)) fun e => sSub d e) fun e => sMul d e))
        (sSet 3 (bd (vF 3) fun d => bd (bd (bd (bd (bd (bd (vF 1) fun d => bd (vF 4) fun e => sAdd d e) fun m => sopt (frz m)) fun d => bd (vF 5) fun e => sAdd d e) fun m => sopt (frz m)) fun d => bd (sret (.int 2)) fun e => sSub d e) fun e => sMul d e)))

def s__law_number_f1 : Sm Fl :=
  (sFor (gN 5)
       s__law_number_f0 (bd (sret (.int 1)) fun d => bd (bd (bd (bd (vF 0) fun d => bd (sret (.int 2)) fun e => TW.sIx d e) fun d => bd (sret (.int 1)) fun e => sAdd d e) fun m => sopt (frz m)) fun e => sRg2 d e))

def s__law_number_f2 : Sm Fl :=
  (sFor (gN 4)
     s__law_number_f1 (bd (sret (.int 1)) fun d => bd (bd (bd (bd (vF 0) fun d => bd (sret (.int 1)) fun e => TW.sIx d e) fun d => bd (sret (.int 1)) fun e => sAdd d e) fun m => sopt (frz m)) fun e => sRg2 d e))

def s__law_number : Sm Fl :=
  (sSeq (sAsg (gT 2 (gsC (gN 2) (gsC (gN 3) gsN))) (bd (sConsF (sret (.int 1)) (sConsF (sret (.int 1)) sNilF)) fun ds => sret (.tuple ds)))
  (sSeq (sFor (gN 1)
   s__law_number_f2 (bd (sret (.int 1)) fun d => bd (bd (bd (bd (vF 0) fun d => bd (sret (.int 0)) fun e => TW.sIx d e) fun d => bd (sret (.int 1)) fun e => sAdd d e) fun m => sopt (frz m)) fun e => sRg2 d e))
  (sRt (bd (bd (vF 2) fun d => bd (vF 3) fun e => sDiv d e) fun d => sret (.fz d)))))

def F__law_number : FS := fnRun 6 1 [0] s__law_number

def s__law_draw : Sm Fl :=
  (sSeq (sIf (bd (bd (vO 0) fun d => bd (sret (.int 0)) fun e => TW.sIx d e) fun d => bd (sret (.int 0)) fun e => sCmp .Gt d e)
   (sSeq (sSet 2 (bd (bd (bd (vO 0) fun d => bd (sret (.int 0)) fun e => TW.sIx d e) fun d => bd (vF 1) fun e => sMod d e) fun d => sret (.fz d)))
    (sSeq (sSetIx 0 (bd (bd (bd (vO 0) fun d => bd (sret (.int 0)) fun e => TW.sIx d e) fun d => bd (vF 1) fun e => sDiv d e) fun d => sret (.fz d)) (sret (.int 0)))
    (sRt (bd (bd (vF 2) sIntOf) fun d => sret (.fz d)))))
   sNx)
  (sSeq (sSetIx 0 (bd (bd (bd (bd (bd (bd (bd (bd (vO 0) fun d => bd (sret (.int 1)) fun e => TW.sIx d e) fun d => bd (sret (.int 48271)) fun e => sMul d e) fun m => sopt (frz m)) fun d => bd (sret (.int 12345)) fun e => sAdd d e) fun m => sopt (frz m)) sIntOf) fun d => bd (sret (.int 2147483647)) fun e => sMod d e) fun d => sret (.fz d)) (sret (.int 1)))
  (sRt (bd (bd (bd (bd (bd (vO 0) fun d => bd (sret (.int 1)) fun e => TW.sIx d e) fun d => bd (sret (.int 64)) fun e => sDiv d e) sIntOf) fun d => bd (vF 1) fun e => sMod d e) fun d => sret (.fz d)))))

def F__law_draw : FS := fnRun 3 2 [0, 1] s__law_draw

def s__law_drawn_f0 : Sm Fl :=
  (sSeq (sSet 9 (sIf (bd (vF 8) fun d => bd (sret (.int 0)) fun e => sCmp .Eq d e) (bd (vF 6) fun d => sret (.fz d)) (bd (bd (vO 7) fun d => bd (bd (vF 8) fun d => bd (sret (.int 1)) fun e => sSub d e) fun e => TW.sIx d e) fun d => sret (.fz d))))
      (sSeq (sIf (bd (vF 3) fun d => bd (sret (.int 0)) fun e => sCmp .Gt d e)
       (sSet 9 (bd (bd (vF 9) fun d => bd (bd (bd (vO 2) fun d => bd (bd (vF 3) fun d => bd (sret (.int 1)) fun e => sSub d e) fun e => TW.sIx d e) fun d => bd (vF 8) fun e => TW.sIx d e) fun e => sMin2 d e) fun d => sret (.fz d)))
       sNx)
      (sDrop (sApp 7 (bd (bd (vF 9) fun d => bd (bd (bd (bd (sCall F__law_draw (sArgS 0 (sArgV (bd (bd (vF 9) fun d => bd (sret (.int 1)) fun e => sAdd d e) fun m => sopt (frz m)) (sret [])))) fun m => sopt (frz m)) fun d => bd (bd (sCall F__law_draw (sArgS 0 (sArgV (sret (.int 2)) (sret [])))) fun m => sopt (frz m)) fun e => sMul d e) fun m => sopt (frz m)) fun e => sSub d e) fun d => sret (.fz d))))))

def s__law_drawn_f1 : Sm Fl :=
  (sSeq (sSet 7 (bd sNilE fun ms => sret (.ml ms)))
    (sSeq (sFor (gN 8)
     s__law_drawn_f0 (bd (vF 5) sRg1))
    (sDrop (sApp 2 (bd (bd (vO 7) sTupOf) fun d => sret (.fz d))))))

def s__law_drawn : Sm Fl :=
  (sSeq (sAsg (gT 3 (gsC (gN 4) (gsC (gN 5) (gsC (gN 6) gsN)))) (vF 1))
  (sSeq (sSet 2 (bd sNilE fun ms => sret (.ml ms)))
  (sSeq (sFor (gN 3)
   s__law_drawn_f1 (bd (vF 4) sRg1))
  (sRt (bd (bd (vO 2) sTupOf) fun d => sret (.fz d))))))

def F__law_drawn : FS := fnRun 10 2 [0, 1] s__law_drawn

def s__law_paths_f0 : Sm Fl :=
  (sSeq (sSet 4 (bd (bd (bd (bd (vE 4) fun m => sopt (frz m)) fun d => bd (bd (bd (bd (bd (sConsE (bd (sret (.str "up")) fun d => sret (.fz d)) sNilE) fun ms => sret (.ml ms)) fun m => sopt (frz m)) fun d => bd (bd (vF 6) fun d => bd (vF 5) fun e => sSub d e) fun e => sMul d e) fun m => sopt (frz m)) fun e => sAdd d e) fun m => sopt (frz m)) fun d => bd (bd (bd (sConsE (bd (sret (.str "on")) fun d => sret (.fz d)) sNilE) fun ms => sret (.ml ms)) fun m => sopt (frz m)) fun e => sAdd d e))
      (sSet 5 (bd (vF 6) fun d => sret (.fz d))))

def s__law_paths_f1 : Sm Fl :=
  (sSeq (sSet 4 (bd sNilE fun ms => sret (.ml ms)))
    (sSeq (sSet 5 (bd (sret (.int 0)) fun d => sret (.fz d)))
    (sSeq (sFor (gN 6)
     s__law_paths_f0 (bd (bd (bd (vF 3) fun d => sRev d) fun m => sopt (frz m)) sItems))
    (sDrop (sApp 2 (bd (bd (bd (bd (bd (vE 4) fun m => sopt (frz m)) fun d => bd (bd (bd (bd (bd (sConsE (bd (sret (.str "up")) fun d => sret (.fz d)) sNilE) fun ms => sret (.ml ms)) fun m => sopt (frz m)) fun d => bd (bd (bd (vF 0) fun d => bd (sret (.int 2)) fun e => TW.sIx d e) fun d => bd (vF 5) fun e => sSub d e) fun e => sMul d e) fun m => sopt (frz m)) fun e => sAdd d e) fun m => sopt (frz m)) sTupOf) fun d => sret (.fz d)))))))

def s__law_paths : Sm Fl :=
  (sSeq (sSet 2 (bd sNilE fun ms => sret (.ml ms)))
  (sSeq (sFor (gN 3)
   s__law_paths_f1 (bd (vF 1) sItems))
  (sRt (bd (bd (vO 2) sTupOf) fun d => sret (.fz d)))))

def F__law_paths : FS := fnRun 7 2 [0, 1] s__law_paths

def s_is_number : Sm Fl :=
  (sRt (bd (sAndV (bd (vF 0) fun d => sret (.bool (isi "int" d))) (bd (sChain .LtE .LtE (vF 1) (vF 0) (vF 2)) fun r => sret (.bool r))) fun d => sret (.fz d)))

def F_is_number : FS := fnRun 3 3 [0, 1, 2] s_is_number

def s_check_box_e0 : Sm M :=
  (sCall F_is_number (sArgV (vF 1) (sArgV (sret (.int 1)) (sArgV (sret (.int 6)) (sret [])))))

def s_check_box_c1 : Sm M :=
  (sLg [1] (gN 1) (sret true) (tlLast s_check_box_e0) (bd (vF 0) sItems))

def s_check_box : Sm Fl :=
  (sIf (sOr (sNot (bd (bd (vF 0) fun d => sret (.bool (isi "tuple" d))) sTru)) (sOr (bd (bd (vF 0) sLen) fun d => bd (sret (.int 3)) fun e => sCmp .NotEq d e) (sNot (bd (bd (bd s_check_box_c1 fun m => sopt (frz m)) sAll) sTru))))
   (fun _ => .exc "OutOfRange")
   sNx)

def F_check_box : FS := fnRun 2 1 [0] s_check_box

def s_places_of_e0 : Sm M :=
  (bd (bd (bd (bd (bd (vF 4) fun d => bd (vF 5) fun e => sAdd d e) fun m => sopt (frz m)) fun d => bd (vF 6) fun e => sAdd d e) fun m => sopt (frz m)) fun d => bd (sret (.int 1)) fun e => sAdd d e)

def s_places_of_c1 : Sm M :=
  (sLg [4, 5, 6] (gN 4) (sret true) (tlMid [5, 6] (gN 5) (sret true) (tlMid [6] (gN 6) (sret true) (tlLast s_places_of_e0) (bd (vF 3) sRg1)) (bd (vF 2) sRg1)) (bd (vF 1) sRg1))

def s_places_of : Sm Fl :=
  (sSeq (sAsg (gT 3 (gsC (gN 1) (gsC (gN 2) (gsC (gN 3) gsN)))) (vF 0))
  (sRt s_places_of_c1))

def F_places_of : FS := fnRun 7 1 [0] s_places_of

def s_sizes_f0 : Sm Fl :=
  (sAugIx 2 .Sub (vF 4) (bd (vO 2) fun d => bd (bd (bd (vF 4) fun d => bd (vF 3) fun e => sSub d e) fun d => bd (sret (.int 1)) fun e => sSub d e) fun e => TW.sIx d e))

def s_sizes_f1 : Sm Fl :=
  (sAugIx 2 .Add (vF 4) (bd (vO 2) fun d => bd (bd (vF 4) fun d => bd (vF 3) fun e => sSub d e) fun e => TW.sIx d e))

def s_sizes_f2 : Sm Fl :=
  (sSeq (sFor (gN 4)
     s_sizes_f0 (bd (bd (vF 1) fun d => bd (sret (.int 1)) fun e => sSub d e) fun d => bd (vF 3) fun e => sRgDn d e))
    (sFor (gN 4)
     s_sizes_f1 (bd (vF 3) fun d => bd (vF 1) fun e => sRg2 d e)))

def s_sizes : Sm Fl :=
  (sSeq (sDrop (sCall F_check_box (sArgV (vF 0) (sret []))))
  (sSeq (sSet 1 (bd (bd (bd (bd (bd (bd (vF 0) fun d => bd (sret (.int 0)) fun e => TW.sIx d e) fun d => bd (bd (vF 0) fun d => bd (sret (.int 1)) fun e => TW.sIx d e) fun e => sMul d e) fun m => sopt (frz m)) fun d => bd (bd (vF 0) fun d => bd (sret (.int 2)) fun e => TW.sIx d e) fun e => sMul d e) fun m => sopt (frz m)) fun d => bd (sret (.int 1)) fun e => sAdd d e))
  (sSeq (sSet 2 (bd (bd (bd (sConsE (bd (sret (.int 1)) fun d => sret (.fz d)) sNilE) fun ms => sret (.ml ms)) fun m => sopt (frz m)) fun d => bd (bd (bd (bd (bd (sConsE (bd (sret (.int 0)) fun d => sret (.fz d)) sNilE) fun ms => sret (.ml ms)) fun m => sopt (frz m)) fun d => bd (bd (vF 1) fun d => bd (sret (.int 1)) fun e => sSub d e) fun e => sMul d e) fun m => sopt (frz m)) fun e => sAdd d e))
  (sSeq (sFor (gN 3)
   s_sizes_f2 (bd (bd (sCall F_places_of (sArgV (vF 0) (sret []))) fun m => sopt (frz m)) sItems))
  (sRt (bd (bd (vO 2) sTupOf) fun d => sret (.fz d)))))))

def F_sizes : FS := fnRun 5 1 [0] s_sizes

def s__law_heaps_e0 : Sm M :=
  (bd (vF 7) fun d => bd (bd (sConsF (vF 10) sNilF) fun ds => sret (.tuple ds)) fun e => sAdd d e)

def s__law_heaps_c1 : Sm M :=
  (sLg [10] (gN 10) (sret true) (tlLast s__law_heaps_e0) (bd (bd (bd (vF 8) fun d => bd (sret (.int 1)) fun e => sAdd d e) fun m => sopt (frz m)) sRg1))

def s__law_heaps_f2 : Sm Fl :=
  (sSeq (sSet 8 (bd (vF 5) fun d => sret (.fz d)))
      (sSeq (sIf (bd (bd (vF 2) fun d => bd (vF 4) fun e => sMod d e) fun d => bd (sret (.int 0)) fun e => sCmp .Gt d e)
       (sSet 8 (bd (bd (vF 8) fun d => bd (bd (vF 7) fun d => bd (bd (vF 2) fun d => bd (sret (.int 1)) fun e => sSub d e) fun e => TW.sIx d e) fun e => sMin2 d e) fun d => sret (.fz d)))
       sNx)
      (sSeq (sIf (bd (vF 2) fun d => bd (vF 4) fun e => sCmp .GtE d e)
       (sSet 8 (bd (bd (vF 8) fun d => bd (bd (vF 7) fun d => bd (bd (vF 2) fun d => bd (vF 4) fun e => sSub d e) fun e => TW.sIx d e) fun e => sMin2 d e) fun d => sret (.fz d)))
       sNx)
      (sSet 6 (bd (bd (vE 6) fun m => sopt (frz m)) fun d => bd (bd s__law_heaps_c1 fun m => sopt (frz m)) fun e => sAdd d e)))))

def s__law_heaps_f3 : Sm Fl :=
  (sSeq (sSet 6 (bd sNilE fun ms => sret (.ml ms)))
    (sSeq (sFor (gN 7)
     s__law_heaps_f2 (bd (bd (vE 1) fun m => sopt (frz m)) sItems))
    (sSet 1 (vE 6))))

def s__law_heaps_e4 : Sm M :=
  (bd (vF 7) fun d => bd (bd (bd (bd (vF 9) fun d => bd (vF 4) fun e => sMul d e) fun m => sopt (frz m)) fun d => bd (sInt d) fun i => sret (some i)) fun l => bd (bd (bd (bd (bd (bd (vF 9) fun d => bd (vF 4) fun e => sMul d e) fun m => sopt (frz m)) fun d => bd (vF 4) fun e => sAdd d e) fun m => sopt (frz m)) fun d => bd (sInt d) fun i => sret (some i)) fun u => sSl d l u)

def s__law_heaps_c5 : Sm M :=
  (sLg [9] (gN 9) (sret true) (tlLast s__law_heaps_e4) (bd (vF 3) sRg1))

def s__law_heaps_e6 : Sm M :=
  (bd (bd (bd s__law_heaps_c5 fun m => sopt (frz m)) sTupOf) fun d => sret (.fz d))

def s__law_heaps_c7 : Sm M :=
  (sLg [7] (gN 7) (sret true) (tlLast s__law_heaps_e6) (bd (bd (vE 1) fun m => sopt (frz m)) sItems))

def s__law_heaps : Sm Fl :=
  (sSeq (sAsg (gT 3 (gsC (gN 3) (gsC (gN 4) (gsC (gN 5) gsN)))) (vF 0))
  (sSeq (sSet 1 (bd (sConsE (bd (bd sNilF fun ds => sret (.tuple ds)) fun d => sret (.fz d)) sNilE) fun ms => sret (.ml ms)))
  (sSeq (sFor (gN 2)
   s__law_heaps_f3 (bd (bd (bd (vF 3) fun d => bd (vF 4) fun e => sMul d e) fun m => sopt (frz m)) sRg1))
  (sRt s__law_heaps_c7))))

def F__law_heaps : FS := fnRun 11 1 [0] s__law_heaps

def s_many_heaps_f0 : Sm Fl :=
  (sPar 2 3 (sConsE (bd (vF 2) fun d => bd (bd (bd (vF 1) fun d => bd (sret (.int 1)) fun e => sAdd d e) fun m => sopt (frz m)) fun e => sMul d e) (sConsE (bd (vF 3) fun d => bd (vF 1) fun e => sMul d e) sNilE)))

def s_many_heaps : Sm Fl :=
  (sSeq (sAsg (gT 2 (gsC (gN 2) (gsC (gN 3) gsN))) (bd (sConsF (sret (.int 1)) (sConsF (sret (.int 1)) sNilF)) fun ds => sret (.tuple ds)))
  (sSeq (sFor (gN 1)
   s_many_heaps_f0 (bd (bd (sCall F_places_of (sArgV (vF 0) (sret []))) fun m => sopt (frz m)) sItems))
  (sRt (bd (bd (vF 2) fun d => bd (vF 3) fun e => sDiv d e) fun d => sret (.fz d)))))

def F_many_heaps : FS := fnRun 4 1 [0] s_many_heaps

def s_count_heaps : Sm Fl :=
  (sSeq (sDrop (sCall F_check_box (sArgV (vF 0) (sret []))))
  (sRt (sCall F_many_heaps (sArgV (vF 0) (sret [])))))

def F_count_heaps : FS := fnRun 1 1 [0] s_count_heaps

def s_many_mirrored_f0 : Sm Fl :=
  (sPar 3 4 (sConsE (bd (vF 3) fun d => bd (bd (bd (bd (bd (bd (vF 2) fun d => bd (vF 5) fun e => sAdd d e) fun m => sopt (frz m)) fun d => bd (vF 1) fun e => sAdd d e) fun m => sopt (frz m)) fun d => bd (sret (.int 1)) fun e => sSub d e) fun e => sMul d e) (sConsE (bd (vF 4) fun d => bd (bd (bd (bd (vF 2) fun d => bd (vF 5) fun e => sAdd d e) fun m => sopt (frz m)) fun d => bd (sret (.int 1)) fun e => sSub d e) fun e => sMul d e) sNilE)))

def s_many_mirrored_f1 : Sm Fl :=
  (sSeq (sPar 3 4 (sConsE (bd (vF 3) fun d => bd (bd (bd (bd (bd (bd (sret (.int 2)) fun d => bd (vF 2) fun e => sMul d e) fun m => sopt (frz m)) fun d => bd (vF 1) fun e => sAdd d e) fun m => sopt (frz m)) fun d => bd (sret (.int 1)) fun e => sSub d e) fun e => sMul d e) (sConsE (bd (vF 4) fun d => bd (bd (bd (bd (sret (.int 2)) fun d => bd (vF 2) fun e => sMul d e) fun m => sopt (frz m)) fun d => bd (sret (.int 1)) fun e => sSub d e) fun e => sMul d e) sNilE)))
    (sFor (gN 5)
     s_many_mirrored_f0 (bd (bd (bd (vF 2) fun d => bd (sret (.int 1)) fun e => sAdd d e) fun m => sopt (frz m)) fun d => bd (bd (bd (vF 0) fun d => bd (sret (.int 1)) fun e => sAdd d e) fun m => sopt (frz m)) fun e => sRg2 d e)))

def s_many_mirrored : Sm Fl :=
  (sSeq (sAsg (gT 2 (gsC (gN 3) (gsC (gN 4) gsN))) (bd (sConsF (sret (.int 1)) (sConsF (sret (.int 1)) sNilF)) fun ds => sret (.tuple ds)))
  (sSeq (sFor (gN 2)
   s_many_mirrored_f1 (bd (sret (.int 1)) fun d => bd (bd (bd (vF 0) fun d => bd (sret (.int 1)) fun e => sAdd d e) fun m => sopt (frz m)) fun e => sRg2 d e))
  (sRt (bd (bd (vF 3) fun d => bd (vF 4) fun e => sDiv d e) fun d => sret (.fz d)))))

def F_many_mirrored : FS := fnRun 6 2 [0, 1] s_many_mirrored

def s_count_alike : Sm Fl :=
  (sSeq (sDrop (sCall F_check_box (sArgV (vF 0) (sret []))))
  (sSeq (sAsg (gT 3 (gsC (gN 2) (gsC (gN 3) (gsC (gN 4) gsN)))) (vF 0))
  (sSeq (sIf (sAnd (bd (vF 1) fun d => bd (sret (.str "side")) fun e => sCmp .Eq d e) (sAnd (bd (bd (vF 2) fun d => bd (sret (.int 2)) fun e => sMod d e) fun d => bd (sret (.int 0)) fun e => sCmp .Eq d e) (sAnd (bd (bd (vF 3) fun d => bd (sret (.int 2)) fun e => sMod d e) fun d => bd (sret (.int 0)) fun e => sCmp .Eq d e) (bd (bd (vF 4) fun d => bd (sret (.int 2)) fun e => sMod d e) fun d => bd (sret (.int 0)) fun e => sCmp .Eq d e))))
   (sSeq (sSet 5 (sCall F_many_heaps (sArgV (bd (sConsF (bd (vF 2) fun d => bd (sret (.int 2)) fun e => sDiv d e) (sConsF (bd (vF 3) fun d => bd (sret (.int 2)) fun e => sDiv d e) (sConsF (bd (vF 4) fun d => bd (sret (.int 2)) fun e => sDiv d e) sNilF))) fun ds => sret (.tuple ds)) (sret []))))
    (sRt (bd (vF 5) fun d => bd (vF 5) fun e => sMul d e)))
   sNx)
  (sSeq (sIf (sAnd (bd (vF 1) fun d => bd (sret (.str "mirror")) fun e => sCmp .Eq d e) (bd (vF 2) fun d => bd (vF 3) fun e => sCmp .Eq d e))
   (sRt (sCall F_many_mirrored (sArgV (vF 2) (sArgV (vF 4) (sret [])))))
   sNx)
  (fun _ => .exc "OutOfRange")))))

def F_count_alike : FS := fnRun 6 2 [0, 1] s_count_alike

def s__law_mirror_e0 : Sm M :=
  (bd (bd (vF 2) fun d => bd (vF 1) fun e => TW.sIx d e) fun d => sret (.fz d))

def s__law_mirror_c1 : Sm M :=
  (sLg [2] (gN 2) (sret true) (tlLast s__law_mirror_e0) (bd (vF 0) sItems))

def s__law_mirror_e2 : Sm M :=
  (bd (bd (bd s__law_mirror_c1 fun m => sopt (frz m)) sTupOf) fun d => sret (.fz d))

def s__law_mirror_c3 : Sm M :=
  (sLg [1] (gN 1) (sret true) (tlLast s__law_mirror_e2) (bd (bd (bd (vF 0) fun d => bd (sret (.int 0)) fun e => TW.sIx d e) sLen) sRg1))

def s__law_mirror : Sm Fl :=
  (sRt (bd (bd (bd s__law_mirror_c3 fun m => sopt (frz m)) sTupOf) fun d => sret (.fz d)))

def F__law_mirror : FS := fnRun 3 1 [0] s__law_mirror

def s__law_other_e0 : Sm M :=
  (bd (bd (bd (vF 0) fun d => bd (sret (.int 2)) fun e => TW.sIx d e) fun d => bd (vF 3) fun e => sSub d e) fun d => sret (.fz d))

def s__law_other_c1 : Sm M :=
  (sLg [3] (gN 3) (sret true) (tlLast s__law_other_e0) (bd (bd (bd (vF 2) fun d => sRev d) fun m => sopt (frz m)) sItems))

def s__law_other_e2 : Sm M :=
  (bd (bd (bd s__law_other_c1 fun m => sopt (frz m)) sTupOf) fun d => sret (.fz d))

def s__law_other_c3 : Sm M :=
  (sLg [2] (gN 2) (sret true) (tlLast s__law_other_e2) (bd (bd (bd (vF 1) fun d => sRev d) fun m => sopt (frz m)) sItems))

def s__law_other : Sm Fl :=
  (sRt (bd (bd (bd s__law_other_c3 fun m => sopt (frz m)) sTupOf) fun d => sret (.fz d)))

def F__law_other : FS := fnRun 4 2 [0, 1] s__law_other

def s__law_small_e0 : Sm M :=
  (bd (bd (vF 6) sSumT) fun d => sret (.fz d))

def s__law_small_c1 : Sm M :=
  (sLg [6] (gN 6) (sret true) (tlLast s__law_small_e0) (bd (vF 3) sItems))

def s__law_small_f2 : Sm Fl :=
  (sSeq (sSet 4 (bd (bd (bd s__law_small_c1 fun m => sopt (frz m)) sSumT) fun d => sret (.fz d)))
    (sSetIx 2 (bd (bd (vO 2) fun d => bd (vF 4) fun e => TW.sIx d e) fun d => bd (sret (.int 1)) fun e => sAdd d e) (vF 4)))

def s__law_small_e3 : Sm M :=
  (bd (vF 3) fun d => sret (.fz d))

def s__law_small_c4 : Sm M :=
  (sLg [3] (gN 3) (bd (bd (sCall F__law_mirror (sArgV (vF 3) (sret []))) fun m => sopt (frz m)) fun d => bd (vF 3) fun e => sCmp .Eq d e) (tlLast s__law_small_e3) (bd (bd (vE 1) fun m => sopt (frz m)) sItems))

def s__law_small_e5 : Sm M :=
  (bd (bd (bd (vF 5) fun d => bd (sret (.int 2)) fun e => sMod d e) fun d => bd (sret (.int 0)) fun e => bd (sCmp .Eq d e) fun r => sret (.bool r)) fun d => sret (.fz d))

def s__law_small_c6 : Sm M :=
  (sLg [5] (gN 5) (sret true) (tlLast s__law_small_e5) (bd (vF 0) sItems))

def s__law_small_e7 : Sm M :=
  (bd (vF 3) fun d => sret (.fz d))

def s__law_small_c8 : Sm M :=
  (sLg [3] (gN 3) (bd (bd (sCall F__law_other (sArgV (vF 0) (sArgV (vF 3) (sret [])))) fun m => sopt (frz m)) fun d => bd (vF 3) fun e => sCmp .Eq d e) (tlLast s__law_small_e7) (bd (bd (vE 1) fun m => sopt (frz m)) sItems))

def s__law_small : Sm Fl :=
  (sSeq (sSet 1 (sCall F__law_heaps (sArgV (vF 0) (sret []))))
  (sSeq (sSet 2 (bd (bd (bd (sConsE (bd (sret (.int 0)) fun d => sret (.fz d)) sNilE) fun ms => sret (.ml ms)) fun m => sopt (frz m)) fun d => bd (bd (bd (bd (bd (bd (bd (bd (vF 0) fun d => bd (sret (.int 0)) fun e => TW.sIx d e) fun d => bd (bd (vF 0) fun d => bd (sret (.int 1)) fun e => TW.sIx d e) fun e => sMul d e) fun m => sopt (frz m)) fun d => bd (bd (vF 0) fun d => bd (sret (.int 2)) fun e => TW.sIx d e) fun e => sMul d e) fun m => sopt (frz m)) fun d => bd (sret (.int 1)) fun e => sAdd d e) fun m => sopt (frz m)) fun e => sMul d e))
  (sSeq (sFor (gN 3)
   s__law_small_f2 (bd (bd (vE 1) fun m => sopt (frz m)) sItems))
  (sSeq (sIf (sOr (bd (bd (bd (sCall F_sizes (sArgV (vF 0) (sret []))) fun m => sopt (frz m)) sRepr) fun d => bd (bd (bd (vO 2) sTupOf) sRepr) fun e => sCmp .NotEq d e) (bd (bd (sCall F_count_heaps (sArgV (vF 0) (sret []))) fun m => sopt (frz m)) fun d => bd (bd (vO 1) sLen) fun e => sCmp .NotEq d e))
   (sRt (bd (sret (.bool false)) fun d => sret (.fz d)))
   sNx)
  (sSeq (sIf (sAnd (bd (bd (vF 0) fun d => bd (sret (.int 0)) fun e => TW.sIx d e) fun d => bd (bd (vF 0) fun d => bd (sret (.int 1)) fun e => TW.sIx d e) fun e => sCmp .Eq d e) (bd (bd (sCall F_count_alike (sArgV (vF 0) (sArgV (sret (.str "mirror")) (sret [])))) fun m => sopt (frz m)) fun d => bd (bd (bd s__law_small_c4 fun m => sopt (frz m)) sLen) fun e => sCmp .NotEq d e))
   (sRt (bd (sret (.bool false)) fun d => sret (.fz d)))
   sNx)
  (sSeq (sIf (bd (bd (bd s__law_small_c6 fun m => sopt (frz m)) sAll) sTru)
   (sRt (bd (bd (bd (sCall F_count_alike (sArgV (vF 0) (sArgV (sret (.str "side")) (sret [])))) fun m => sopt (frz m)) fun d => bd (bd (bd s__law_small_c8 fun m => sopt (frz m)) sLen) fun e => bd (sCmp .Eq d e) fun r => sret (.bool r)) fun d => sret (.fz d)))
   sNx)
  (sRt (bd (sret (.bool true)) fun d => sret (.fz d)))))))))

def F__law_small : FS := fnRun 7 1 [0] s__law_small

def s__law_meet_f0 : Sm Fl :=
  (sSeq (sAsg (gT 2 (gsC (gN 5) (gsC (gN 6) gsN))) (sIf (bd (vF 4) fun d => bd (sret (.str "on")) fun e => sCmp .Eq d e) (bd (sConsF (bd (bd (vF 5) fun d => bd (sret (.int 1)) fun e => sAdd d e) fun m => sopt (frz m)) (sConsF (vF 6) sNilF)) fun ds => sret (.tuple ds)) (bd (sConsF (vF 5) (sConsF (bd (bd (vF 6) fun d => bd (sret (.int 1)) fun e => sAdd d e) fun m => sopt (frz m)) sNilF)) fun ds => sret (.tuple ds))))
      (sDrop (sApp 3 (bd (bd (sConsF (vF 5) (sConsF (vF 6) sNilF)) fun ds => sret (.tuple ds)) fun d => sret (.fz d)))))

def s__law_meet_e1 : Sm M :=
  (bd (bd (vF 7) fun d => bd (vO 1) fun e => bd (sCmp .In d e) fun r => sret (.bool r)) fun d => sret (.fz d))

def s__law_meet_c2 : Sm M :=
  (sLg [7] (gN 7) (sret true) (tlLast s__law_meet_e1) (bd (bd (vE 3) fun m => sopt (frz m)) sItems))

def s__law_meet_f3 : Sm Fl :=
  (sSeq (sPar 5 6 (sConsE (bd (vF 2) fun d => sret (.fz d)) (sConsE (bd (bd (sret (.int 0)) fun d => bd (vF 2) fun e => sSub d e) fun d => sret (.fz d)) sNilE)))
    (sSeq (sSet 3 (bd (sConsE (bd (bd (sConsF (vF 5) (sConsF (vF 6) sNilF)) fun ds => sret (.tuple ds)) fun d => sret (.fz d)) sNilE) fun ms => sret (.ml ms)))
    (sSeq (sFor (gN 4)
     s__law_meet_f0 (bd (bd (vF 0) fun d => bd (vF 2) fun e => TW.sIx d e) sItems))
    (sSeq (sIf (bd (bd (bd s__law_meet_c2 fun m => sopt (frz m)) sAny) sTru)
     (sRt (bd (sret (.bool true)) fun d => sret (.fz d)))
     sNx)
    (sSet 1 (bd (bd (vE 1) fun m => sopt (frz m)) fun d => bd (bd (vE 3) fun m => sopt (frz m)) fun e => sAdd d e))))))

def s__law_meet : Sm Fl :=
  (sSeq (sSet 1 (bd sNilE fun ms => sret (.ml ms)))
  (sSeq (sFor (gN 2)
   s__law_meet_f3 (bd (bd (vF 0) sLen) sRg1))
  (sRt (bd (sret (.bool false)) fun d => sret (.fz d)))))

def F__law_meet : FS := fnRun 8 1 [0] s__law_meet

def s_points_of_f0 : Sm Fl :=
  (sSeq (sAsg (gT 2 (gsC (gN 4) (gsC (gN 5) gsN))) (sIf (bd (vF 3) fun d => bd (sret (.str "on")) fun e => sCmp .Eq d e) (bd (sConsF (bd (bd (vF 4) fun d => bd (sret (.int 1)) fun e => sAdd d e) fun m => sopt (frz m)) (sConsF (vF 5) sNilF)) fun ds => sret (.tuple ds)) (bd (sConsF (vF 4) (sConsF (bd (bd (vF 5) fun d => bd (sret (.int 1)) fun e => sAdd d e) fun m => sopt (frz m)) sNilF)) fun ds => sret (.tuple ds))))
    (sDrop (sApp 2 (bd (bd (sConsF (vF 4) (sConsF (vF 5) sNilF)) fun ds => sret (.tuple ds)) fun d => sret (.fz d)))))

def s_points_of : Sm Fl :=
  (sSeq (sPar 4 5 (sConsE (bd (vF 0) fun d => sret (.fz d)) (sConsE (bd (bd (vF 0) fun d => sNeg d) fun d => sret (.fz d)) sNilE)))
  (sSeq (sSet 2 (bd (sConsE (bd (bd (sConsF (vF 4) (sConsF (vF 5) sNilF)) fun ds => sret (.tuple ds)) fun d => sret (.fz d)) sNilE) fun ms => sret (.ml ms)))
  (sSeq (sFor (gN 3)
   s_points_of_f0 (bd (vF 1) sItems))
  (sRt (vM 2)))))

def F_points_of : FS := fnRun 6 2 [0, 1] s_points_of

def s_row_of_f0 : Sm Fl :=
  (sIf (bd (vF 1) fun d => bd (sret (.str "up")) fun e => sCmp .Eq d e)
     (sAug 3 .Add (sret (.int 1)))
     (sDrop (sApp 2 (bd (vF 3) fun d => sret (.fz d)))))

def s_row_of : Sm Fl :=
  (sSeq (sPar 2 3 (sConsE (bd sNilE fun ms => sret (.ml ms)) (sConsE (bd (sret (.int 0)) fun d => sret (.fz d)) sNilE)))
  (sSeq (sFor (gN 1)
   s_row_of_f0 (bd (vF 0) sItems))
  (sRt (bd (bd (bd (bd (vO 2) fun d => sRev d) fun m => sopt (frz m)) sTupOf) fun d => sret (.fz d)))))

def F_row_of : FS := fnRun 4 1 [0] s_row_of

def s_heap_of_e0 : Sm M :=
  (bd (bd (vF 8) fun d => sret (.bool (isi "tuple" d))) fun d => sret (.fz d))

def s_heap_of_c1 : Sm M :=
  (sLg [8] (gN 8) (sret true) (tlLast s_heap_of_e0) (bd (vF 1) sItems))

def s_heap_of_e2 : Sm M :=
  (bd (sAndV (bd (bd (vF 8) sLen) fun d => bd (bd (bd (vF 4) fun d => bd (vF 5) fun e => sAdd d e) fun m => sopt (frz m)) fun e => bd (sCmp .Eq d e) fun r => sret (.bool r)) (sAndV (bd (bd (vF 8) fun d => bd (sTup d) fun xs => bd (sret (.str "on")) fun e => sCount (.tuple xs) e) fun d => bd (vF 4) fun e => bd (sCmp .Eq d e) fun r => sret (.bool r)) (bd (bd (vF 8) fun d => bd (sTup d) fun xs => bd (sret (.str "up")) fun e => sCount (.tuple xs) e) fun d => bd (vF 5) fun e => bd (sCmp .Eq d e) fun r => sret (.bool r)))) fun d => sret (.fz d))

def s_heap_of_c3 : Sm M :=
  (sLg [8] (gN 8) (sret true) (tlLast s_heap_of_e2) (bd (vF 1) sItems))

def s_heap_of_e4 : Sm M :=
  (bd (vF 6) fun d => sret (.fz d))

def s_heap_of_c5 : Sm M :=
  (sLg [6, 7, 8] (gT 2 (gsC (gN 7) (gsC (gN 8) gsN))) (sret true) (tlMid [6] (gN 6) (sret true) (tlLast s_heap_of_e4) (bd (bd (sCall F_points_of (sArgV (vF 7) (sArgV (vF 8) (sret [])))) fun m => sopt (frz m)) sItems)) (bd (vF 1) sEnum))

def s_heap_of_e6 : Sm M :=
  (sCall F_row_of (sArgV (vF 8) (sret [])))

def s_heap_of_c7 : Sm M :=
  (sLg [8] (gN 8) (sret true) (tlLast s_heap_of_e6) (bd (vF 1) sItems))

def s_heap_of : Sm Fl :=
  (sSeq (sDrop (sCall F_check_box (sArgV (vF 0) (sret []))))
  (sSeq (sAsg (gT 3 (gsC (gN 3) (gsC (gN 4) (gsC (gN 5) gsN)))) (vF 0))
  (sSeq (sIf (sOr (sNot (bd (bd (vF 1) fun d => sret (.bool (isi "tuple" d))) sTru)) (sOr (bd (bd (vF 1) sLen) fun d => bd (vF 3) fun e => sCmp .NotEq d e) (sNot (bd (bd (bd s_heap_of_c1 fun m => sopt (frz m)) sAll) sTru))))
   (fun _ => .exc "OutOfRange")
   sNx)
  (sSeq (sIf (sNot (bd (bd (bd s_heap_of_c3 fun m => sopt (frz m)) sAll) sTru))
   (fun _ => .exc "OutOfRange")
   sNx)
  (sSeq (sSet 2 s_heap_of_c5)
  (sSeq (sIf (bd (sLenD [6] (gN 6) (sret true) (tlDict (vF 6) (sret (.bool true))) (bd (bd (vE 2) fun m => sopt (frz m)) sItems)) fun d => bd (bd (vO 2) sLen) fun e => sCmp .Lt d e)
   (sRt (bd (sret .none) fun d => sret (.fz d)))
   sNx)
  (sRt (bd (bd (bd s_heap_of_c7 fun m => sopt (frz m)) sTupOf) fun d => sret (.fz d)))))))))

def F_heap_of : FS := fnRun 9 2 [0, 1] s_heap_of

def s__law_times_f0 : Sm Fl :=
  (sSetIx 7 (bd (bd (bd (vO 7) fun d => bd (bd (bd (vF 8) fun d => bd (vF 6) fun e => sAdd d e) fun m => sopt (frz m)) fun e => TW.sIx d e) fun d => bd (bd (vO 1) fun d => bd (vF 8) fun e => TW.sIx d e) fun e => sSub d e) fun d => sret (.fz d)) (bd (bd (vF 8) fun d => bd (vF 6) fun e => sAdd d e) fun m => sopt (frz m)))

def s__law_times_f1 : Sm Fl :=
  (sSeq (sSet 6 (bd (bd (bd (bd (bd (bd (vF 3) fun d => bd (vF 4) fun e => sAdd d e) fun m => sopt (frz m)) fun d => bd (vF 5) fun e => sAdd d e) fun m => sopt (frz m)) fun d => bd (vF 2) fun e => sSub d e) fun d => sret (.fz d)))
        (sSeq (sSet 7 (bd (bd (bd (vO 1) sLstOf) fun m => sopt (frz m)) fun d => bd (bd (bd (bd (bd (sConsE (bd (sret (.int 0)) fun d => sret (.fz d)) sNilE) fun ms => sret (.ml ms)) fun m => sopt (frz m)) fun d => bd (vF 6) fun e => sMul d e) fun m => sopt (frz m)) fun e => sAdd d e))
        (sSeq (sFor (gN 8)
         s__law_times_f0 (bd (bd (vO 1) sLen) sRg1))
        (sSet 1 (vE 7)))))

def s__law_times_f2 : Sm Fl :=
  (sFor (gN 5)
       s__law_times_f1 (bd (sret (.int 1)) fun d => bd (bd (bd (bd (vF 0) fun d => bd (sret (.int 2)) fun e => TW.sIx d e) fun d => bd (sret (.int 1)) fun e => sAdd d e) fun m => sopt (frz m)) fun e => sRg2 d e))

def s__law_times_f3 : Sm Fl :=
  (sFor (gN 4)
     s__law_times_f2 (bd (sret (.int 1)) fun d => bd (bd (bd (bd (vF 0) fun d => bd (sret (.int 1)) fun e => TW.sIx d e) fun d => bd (sret (.int 1)) fun e => sAdd d e) fun m => sopt (frz m)) fun e => sRg2 d e))

def s__law_times : Sm Fl :=
  (sSeq (sFor (gN 3)
   s__law_times_f3 (bd (sret (.int 1)) fun d => bd (bd (bd (bd (vF 0) fun d => bd (sret (.int 0)) fun e => TW.sIx d e) fun d => bd (sret (.int 1)) fun e => sAdd d e) fun m => sopt (frz m)) fun e => sRg2 d e))
  (sRt (vM 1)))

def F__law_times : FS := fnRun 9 3 [0, 2] s__law_times

def s_check_heap_e0 : Sm M :=
  (sCall F_is_number (sArgV (vF 9) (sArgV (sret (.int 0)) (sArgV (vF 6) (sret [])))))

def s_check_heap_c1 : Sm M :=
  (sLg [9] (gN 9) (sret true) (tlLast s_check_heap_e0) (bd (vF 2) sItems))

def s_check_heap_f2 : Sm Fl :=
  (sIf (sOr (sNot (bd (bd (vF 2) fun d => sret (.bool (isi "tuple" d))) sTru)) (sOr (bd (bd (vF 2) sLen) fun d => bd (vF 5) fun e => sCmp .NotEq d e) (sNot (bd (bd (bd s_check_heap_c1 fun m => sopt (frz m)) sAll) sTru))))
     (fun _ => .exc "BadHeap")
     sNx)

def s_check_heap_e3 : Sm M :=
  (bd (bd (bd (vF 7) fun d => bd (vF 8) fun e => TW.sIx d e) fun d => bd (bd (vF 7) fun d => bd (bd (bd (vF 8) fun d => bd (sret (.int 1)) fun e => sAdd d e) fun m => sopt (frz m)) fun e => TW.sIx d e) fun e => bd (sCmp .Lt d e) fun r => sret (.bool r)) fun d => sret (.fz d))

def s_check_heap_c4 : Sm M :=
  (sLg [8] (gN 8) (sret true) (tlLast s_check_heap_e3) (bd (bd (bd (vF 7) sLen) fun d => bd (sret (.int 1)) fun e => sSub d e) sRg1))

def s_check_heap_e5 : Sm M :=
  (bd (bd (bd s_check_heap_c4 fun m => sopt (frz m)) sAny) fun d => sret (.fz d))

def s_check_heap_c6 : Sm M :=
  (sLg [7] (gN 7) (sret true) (tlLast s_check_heap_e5) (bd (bd (vE 3) fun m => sopt (frz m)) sItems))

def s_check_heap : Sm Fl :=
  (sSeq (sDrop (sCall F_check_box (sArgV (vF 0) (sret []))))
  (sSeq (sAsg (gT 3 (gsC (gN 4) (gsC (gN 5) (gsC (gN 6) gsN)))) (vF 0))
  (sSeq (sIf (sOr (sNot (bd (bd (vF 1) fun d => sret (.bool (isi "tuple" d))) sTru)) (bd (bd (vF 1) sLen) fun d => bd (vF 4) fun e => sCmp .NotEq d e))
   (fun _ => .exc "BadHeap")
   sNx)
  (sSeq (sFor (gN 2)
   s_check_heap_f2 (bd (vF 1) sItems))
  (sSeq (sSet 3 (bd (bd (bd (vF 1) sLstOf) fun m => sopt (frz m)) fun d => bd (bd (bd (vF 1) sZipT) fun m => sopt (frz m)) fun e => sAdd d e))
  (sIf (bd (bd (bd s_check_heap_c6 fun m => sopt (frz m)) sAny) sTru)
   (fun _ => .exc "BadHeap")
   sNx))))))

def F_check_heap : FS := fnRun 10 2 [0, 1] s_check_heap

def s_other_side_e0 : Sm M :=
  (bd (bd (bd (vF 0) fun d => bd (sret (.int 2)) fun e => TW.sIx d e) fun d => bd (vF 3) fun e => sSub d e) fun d => sret (.fz d))

def s_other_side_c1 : Sm M :=
  (sLg [3] (gN 3) (sret true) (tlLast s_other_side_e0) (bd (bd (bd (vF 2) fun d => sRev d) fun m => sopt (frz m)) sItems))

def s_other_side_e2 : Sm M :=
  (bd (bd (bd s_other_side_c1 fun m => sopt (frz m)) sTupOf) fun d => sret (.fz d))

def s_other_side_c3 : Sm M :=
  (sLg [2] (gN 2) (sret true) (tlLast s_other_side_e2) (bd (bd (bd (vF 1) fun d => sRev d) fun m => sopt (frz m)) sItems))

def s_other_side : Sm Fl :=
  (sSeq (sDrop (sCall F_check_heap (sArgV (vF 0) (sArgV (vF 1) (sret [])))))
  (sRt (bd (bd (sConsF (vF 0) (sConsF (bd (bd s_other_side_c3 fun m => sopt (frz m)) sTupOf) sNilF)) fun ds => sret (.tuple ds)) fun d => sret (.fz d))))

def F_other_side : FS := fnRun 4 2 [0, 1] s_other_side

def s_rolled_e0 : Sm M :=
  (bd (vF 8) fun d => sret (.fz d))

def s_rolled_c1 : Sm M :=
  (sLg [8] (gN 8) (bd (bd (vF 8) fun d => bd (vF 3) fun e => TW.sIx d e) fun d => bd (vF 7) fun e => sCmp .Gt d e) (tlLast s_rolled_e0) (bd (vF 1) sItems))

def s_rolled_e2 : Sm M :=
  (bd (bd (bd s_rolled_c1 fun m => sopt (frz m)) sLen) fun d => sret (.fz d))

def s_rolled_c3 : Sm M :=
  (sLg [7] (gN 7) (sret true) (tlLast s_rolled_e2) (bd (vF 6) sRg1))

def s_rolled_f4 : Sm Fl :=
  (sDrop (sApp 2 (bd (bd (bd s_rolled_c3 fun m => sopt (frz m)) sTupOf) fun d => sret (.fz d))))

def s_rolled : Sm Fl :=
  (sSeq (sDrop (sCall F_check_heap (sArgV (vF 0) (sArgV (vF 1) (sret [])))))
  (sSeq (sAsg (gT 3 (gsC (gN 4) (gsC (gN 5) (gsC (gN 6) gsN)))) (vF 0))
  (sSeq (sSet 2 (bd sNilE fun ms => sret (.ml ms)))
  (sSeq (sFor (gN 3)
   s_rolled_f4 (bd (vF 5) sRg1))
  (sRt (bd (bd (sConsF (bd (sConsF (vF 5) (sConsF (vF 6) (sConsF (vF 4) sNilF))) fun ds => sret (.tuple ds)) (sConsF (bd (vO 2) sTupOf) sNilF)) fun ds => sret (.tuple ds)) fun d => sret (.fz d)))))))

def F_rolled : FS := fnRun 9 2 [0, 1] s_rolled

def s__law_alike_f0 : Sm Fl :=
  (sPar 6 7 (sConsE (bd (vF 6) fun d => bd (bd (bd (bd (bd (bd (vF 2) fun d => bd (vF 8) fun e => sAdd d e) fun m => sopt (frz m)) fun d => bd (vF 5) fun e => sAdd d e) fun m => sopt (frz m)) fun d => bd (sret (.int 1)) fun e => sSub d e) fun e => sMul d e) (sConsE (bd (vF 7) fun d => bd (bd (bd (bd (vF 2) fun d => bd (vF 8) fun e => sAdd d e) fun m => sopt (frz m)) fun d => bd (sret (.int 1)) fun e => sSub d e) fun e => sMul d e) sNilE)))

def s__law_alike_f1 : Sm Fl :=
  (sSeq (sPar 6 7 (sConsE (bd (vF 6) fun d => bd (bd (bd (bd (bd (bd (sret (.int 2)) fun d => bd (vF 2) fun e => sMul d e) fun m => sopt (frz m)) fun d => bd (vF 5) fun e => sAdd d e) fun m => sopt (frz m)) fun d => bd (sret (.int 1)) fun e => sSub d e) fun e => sMul d e) (sConsE (bd (vF 7) fun d => bd (bd (bd (bd (sret (.int 2)) fun d => bd (vF 2) fun e => sMul d e) fun m => sopt (frz m)) fun d => bd (sret (.int 1)) fun e => sSub d e) fun e => sMul d e) sNilE)))
    (sFor (gN 8)
     s__law_alike_f0 (bd (bd (bd (vF 2) fun d => bd (sret (.int 1)) fun e => sAdd d e) fun m => sopt (frz m)) fun d => bd (bd (bd (vF 3) fun d => bd (sret (.int 1)) fun e => sAdd d e) fun m => sopt (frz m)) fun e => sRg2 d e)))

def s__law_alike : Sm Fl :=
  (sSeq (sAsg (gT 3 (gsC (gN 3) (gsC (gN 4) (gsC (gN 5) gsN)))) (vF 0))
  (sSeq (sIf (bd (vF 1) fun d => bd (sret (.str "side")) fun e => sCmp .Eq d e)
   (sRt (bd (bd (sCall F__law_number (sArgV (bd (sConsF (bd (vF 3) fun d => bd (sret (.int 2)) fun e => sDiv d e) (sConsF (bd (vF 4) fun d => bd (sret (.int 2)) fun e => sDiv d e) (sConsF (bd (vF 5) fun d => bd (sret (.int 2)) fun e => sDiv d e) sNilF))) fun ds => sret (.tuple ds)) (sret []))) fun m => sopt (frz m)) fun d => bd (bd (sCall F__law_number (sArgV (bd (sConsF (bd (vF 3) fun d => bd (sret (.int 2)) fun e => sDiv d e) (sConsF (bd (vF 4) fun d => bd (sret (.int 2)) fun e => sDiv d e) (sConsF (bd (vF 5) fun d => bd (sret (.int 2)) fun e => sDiv d e) sNilF))) fun ds => sret (.tuple ds)) (sret []))) fun m => sopt (frz m)) fun e => sMul d e))
   sNx)
  (sSeq (sAsg (gT 2 (gsC (gN 6) (gsC (gN 7) gsN))) (bd (sConsF (sret (.int 1)) (sConsF (sret (.int 1)) sNilF)) fun ds => sret (.tuple ds)))
  (sSeq (sFor (gN 2)
   s__law_alike_f1 (bd (sret (.int 1)) fun d => bd (bd (bd (vF 3) fun d => bd (sret (.int 1)) fun e => sAdd d e) fun m => sopt (frz m)) fun e => sRg2 d e))
  (sRt (bd (bd (vF 6) fun d => bd (vF 7) fun e => sDiv d e) fun d => sret (.fz d)))))))

def F__law_alike : FS := fnRun 9 2 [0, 1] s__law_alike

def s_mirror_e0 : Sm M :=
  (bd (bd (vF 6) fun d => bd (vF 5) fun e => TW.sIx d e) fun d => sret (.fz d))

def s_mirror_c1 : Sm M :=
  (sLg [6] (gN 6) (sret true) (tlLast s_mirror_e0) (bd (vF 1) sItems))

def s_mirror_e2 : Sm M :=
  (bd (bd (bd s_mirror_c1 fun m => sopt (frz m)) sTupOf) fun d => sret (.fz d))

def s_mirror_c3 : Sm M :=
  (sLg [5] (gN 5) (sret true) (tlLast s_mirror_e2) (bd (vF 3) sRg1))

def s_mirror : Sm Fl :=
  (sSeq (sDrop (sCall F_check_heap (sArgV (vF 0) (sArgV (vF 1) (sret [])))))
  (sSeq (sAsg (gT 3 (gsC (gN 2) (gsC (gN 3) (gsC (gN 4) gsN)))) (vF 0))
  (sRt (bd (bd (sConsF (bd (sConsF (vF 3) (sConsF (vF 2) (sConsF (vF 4) sNilF))) fun ds => sret (.tuple ds)) (sConsF (bd (bd s_mirror_c3 fun m => sopt (frz m)) sTupOf) sNilF)) fun ds => sret (.tuple ds)) fun d => sret (.fz d)))))

def F_mirror : FS := fnRun 7 2 [0, 1] s_mirror

def s__law_rolled_e0 : Sm M :=
  (bd (vF 5) fun d => sret (.fz d))

def s__law_rolled_c1 : Sm M :=
  (sLg [5] (gN 5) (bd (bd (vF 5) fun d => bd (vF 3) fun e => TW.sIx d e) fun d => bd (vF 4) fun e => sCmp .Gt d e) (tlLast s__law_rolled_e0) (bd (vF 1) sItems))

def s__law_rolled_e2 : Sm M :=
  (bd (bd (bd s__law_rolled_c1 fun m => sopt (frz m)) sLen) fun d => sret (.fz d))

def s__law_rolled_c3 : Sm M :=
  (sLg [4] (gN 4) (sret true) (tlLast s__law_rolled_e2) (bd (bd (vF 0) fun d => bd (sret (.int 2)) fun e => TW.sIx d e) sRg1))

def s__law_rolled_f4 : Sm Fl :=
  (sDrop (sApp 2 (bd (bd (bd s__law_rolled_c3 fun m => sopt (frz m)) sTupOf) fun d => sret (.fz d))))

def s__law_rolled : Sm Fl :=
  (sSeq (sSet 2 (bd sNilE fun ms => sret (.ml ms)))
  (sSeq (sFor (gN 3)
   s__law_rolled_f4 (bd (bd (vF 0) fun d => bd (sret (.int 1)) fun e => TW.sIx d e) sRg1))
  (sRt (bd (bd (vO 2) sTupOf) fun d => sret (.fz d)))))

def F__law_rolled : FS := fnRun 6 2 [0, 1] s__law_rolled

def s_path_of_f0 : Sm Fl :=
  (sSeq (sSet 3 (bd (bd (bd (bd (vE 3) fun m => sopt (frz m)) fun d => bd (bd (bd (bd (bd (sConsE (bd (sret (.str "up")) fun d => sret (.fz d)) sNilE) fun ms => sret (.ml ms)) fun m => sopt (frz m)) fun d => bd (bd (vF 2) fun d => bd (vF 4) fun e => sSub d e) fun e => sMul d e) fun m => sopt (frz m)) fun e => sAdd d e) fun m => sopt (frz m)) fun d => bd (bd (bd (sConsE (bd (sret (.str "on")) fun d => sret (.fz d)) sNilE) fun ms => sret (.ml ms)) fun m => sopt (frz m)) fun e => sAdd d e))
    (sSet 4 (bd (vF 2) fun d => sret (.fz d))))

def s_path_of : Sm Fl :=
  (sSeq (sPar 3 4 (sConsE (bd sNilE fun ms => sret (.ml ms)) (sConsE (bd (sret (.int 0)) fun d => sret (.fz d)) sNilE)))
  (sSeq (sFor (gN 2)
   s_path_of_f0 (bd (bd (bd (vF 0) fun d => sRev d) fun m => sopt (frz m)) sItems))
  (sRt (bd (bd (bd (bd (bd (vE 3) fun m => sopt (frz m)) fun d => bd (bd (bd (bd (bd (sConsE (bd (sret (.str "up")) fun d => sret (.fz d)) sNilE) fun ms => sret (.ml ms)) fun m => sopt (frz m)) fun d => bd (bd (vF 1) fun d => bd (vF 4) fun e => sSub d e) fun e => sMul d e) fun m => sopt (frz m)) fun e => sAdd d e) fun m => sopt (frz m)) sTupOf) fun d => sret (.fz d)))))

def F_path_of : FS := fnRun 5 2 [0, 1] s_path_of

def s_paths_of_e0 : Sm M :=
  (sCall F_path_of (sArgV (vF 2) (sArgV (bd (vF 0) fun d => bd (sret (.int 2)) fun e => TW.sIx d e) (sret []))))

def s_paths_of_c1 : Sm M :=
  (sLg [2] (gN 2) (sret true) (tlLast s_paths_of_e0) (bd (vF 1) sItems))

def s_paths_of : Sm Fl :=
  (sSeq (sDrop (sCall F_check_heap (sArgV (vF 0) (sArgV (vF 1) (sret [])))))
  (sRt (bd (bd (bd s_paths_of_c1 fun m => sopt (frz m)) sTupOf) fun d => sret (.fz d))))

def F_paths_of : FS := fnRun 3 2 [0, 1] s_paths_of

def s_law_e0 : Sm M :=
  (bd (sret (.int 1)) fun d => bd (bd (sCall F__law_draw (sArgS 1 (sArgV (sret (.int 6)) (sret [])))) fun m => sopt (frz m)) fun e => sAdd d e)

def s_law_c1 : Sm M :=
  (sLg [15] (gN 15) (sret true) (tlLast s_law_e0) (bd (sret (.int 3)) sRg1))

def s_law_e2 : Sm M :=
  (bd (bd (bd (vF 16) fun d => bd (sret (.int 2)) fun e => sMod d e) fun d => bd (sret (.int 0)) fun e => bd (sCmp .Eq d e) fun r => sret (.bool r)) fun d => sret (.fz d))

def s_law_c3 : Sm M :=
  (sLg [16] (gN 16) (sret true) (tlLast s_law_e2) (bd (vF 2) sItems))

def s_law_f4 : Sm Fl :=
  (sDrop (sIns 14 (bd (sCall F__law_draw (sArgS 1 (sArgV (bd (bd (bd (vO 14) sLen) fun d => bd (sret (.int 1)) fun e => sAdd d e) fun m => sopt (frz m)) (sret [])))) fun m => sopt (frz m)) (bd (sret (.str "up")) fun d => sret (.fz d))))

def s_law_f5 : Sm Fl :=
  (sSeq (sSet 14 (bd (bd (bd (sConsE (bd (sret (.str "on")) fun d => sret (.fz d)) sNilE) fun ms => sret (.ml ms)) fun m => sopt (frz m)) fun d => bd (vF 10) fun e => sMul d e))
      (sSeq (sFor (gN 15)
       s_law_f4 (bd (vF 11) sRg1))
      (sDrop (sApp 12 (sIf (bd (bd (sCall F__law_draw (sArgS 1 (sArgV (sret (.int 3)) (sret [])))) fun m => sopt (frz m)) fun d => bd (sret (.int 0)) fun e => sCmp .Eq d e) (bd (bd (vO 14) sTupOf) fun d => sret (.fz d)) (bd (bd (vF 6) fun d => bd (vF 13) fun e => TW.sIx d e) fun d => sret (.fz d)))))))

def s_law_f6 : Sm Fl :=
  (sSeq (sSet 12 (bd sNilE fun ms => sret (.ml ms)))
    (sSeq (sFor (gN 13)
     s_law_f5 (bd (vF 9) sRg1))
    (sSeq (sSet 8 (sCall F_heap_of (sArgV (vF 2) (sArgV (bd (vO 12) sTupOf) (sret [])))))
    (sIf (sOr (bd (bd (vF 8) fun d => bd (sret .none) fun e => bd (sCmp .Is d e) fun r => sret (.bool r)) fun d => bd (bd (sCall F__law_meet (sArgV (bd (vE 12) fun m => sopt (frz m)) (sret []))) fun m => sopt (frz m)) fun e => sCmp .NotEq d e) (sAnd (bd (vF 8) fun d => bd (sret .none) fun e => sCmp .IsNot d e) (bd (bd (sCall F__law_paths (sArgV (vF 2) (sArgV (vF 8) (sret [])))) fun m => sopt (frz m)) fun d => bd (bd (vO 12) sTupOf) fun e => sCmp .NotEq d e)))
     (sRt (bd (sret (.bool false)) fun d => sret (.fz d)))
     sNx))))

def s_law : Sm Fl :=
  (sSeq (sSet 1 (sCall F__law_stream (sArgS 0 (sArgV (sret (.int 0)) (sret [])))))
  (sSeq (sSet 2 (bd (bd (bd s_law_c1 fun m => sopt (frz m)) sTupOf) fun d => sret (.fz d)))
  (sSeq (sSet 3 (sCall F__law_number (sArgV (vF 2) (sret []))))
  (sSeq (sIf (bd (bd (bd (sCall F_count_heaps (sArgV (vF 2) (sret []))) fun m => sopt (frz m)) sRepr) fun d => bd (bd (vF 3) sRepr) fun e => sCmp .NotEq d e)
   (sRt (bd (sret (.bool false)) fun d => sret (.fz d)))
   sNx)
  (sSeq (sIf (bd (bd (bd (bd (bd (bd (vF 2) fun d => bd (sret (.int 0)) fun e => TW.sIx d e) fun d => bd (bd (vF 2) fun d => bd (sret (.int 1)) fun e => TW.sIx d e) fun e => sMul d e) fun m => sopt (frz m)) fun d => bd (bd (vF 2) fun d => bd (sret (.int 2)) fun e => TW.sIx d e) fun e => sMul d e) fun m => sopt (frz m)) fun d => bd (sret (.int 65)) fun e => sCmp .Lt d e)
   (sSeq (sSet 8 (sCall F_sizes (sArgV (vF 2) (sret []))))
    (sSeq (sIf (sOr (sNot (bd (bd (vF 8) fun d => sret (.bool (isi "tuple" d))) sTru)) (sOr (bd (bd (vF 8) sLen) fun d => bd (bd (bd (bd (bd (bd (bd (bd (vF 2) fun d => bd (sret (.int 0)) fun e => TW.sIx d e) fun d => bd (bd (vF 2) fun d => bd (sret (.int 1)) fun e => TW.sIx d e) fun e => sMul d e) fun m => sopt (frz m)) fun d => bd (bd (vF 2) fun d => bd (sret (.int 2)) fun e => TW.sIx d e) fun e => sMul d e) fun m => sopt (frz m)) fun d => bd (sret (.int 1)) fun e => sAdd d e) fun m => sopt (frz m)) fun e => sCmp .NotEq d e) (bd (bd (vF 8) sSumT) fun d => bd (vF 3) fun e => sCmp .NotEq d e)))
     (sRt (bd (sret (.bool false)) fun d => sret (.fz d)))
     sNx)
    (sIf (bd (bd (sCall F__law_times (sArgV (vF 2) (sArgV (bd (bd (vF 8) sLstOf) fun m => sopt (frz m)) (sArgV (sret (.int 2)) (sret []))))) fun m => sopt (frz m)) fun d => bd (bd (bd (bd (sCall F__law_times (sArgV (vF 2) (sArgV (bd (bd (sConsE (bd (sret (.int 1)) fun d => sret (.fz d)) sNilE) fun ms => sret (.ml ms)) fun m => sopt (frz m)) (sArgV (sret (.int 1)) (sret []))))) fun m => sopt (frz m)) fun d => bd (sret none) fun l => bd (bd (bd (bd (sCall F__law_times (sArgV (vF 2) (sArgV (bd (bd (vF 8) sLstOf) fun m => sopt (frz m)) (sArgV (sret (.int 2)) (sret []))))) fun m => sopt (frz m)) sLen) fun d => bd (sInt d) fun i => sret (some i)) fun u => sSl d l u) fun m => sopt (frz m)) fun e => sCmp .NotEq d e)
     (sRt (bd (sret (.bool false)) fun d => sret (.fz d)))
     sNx)))
   sNx)
  (sSeq (sIf (sAnd (bd (bd (vF 2) fun d => bd (sret (.int 0)) fun e => TW.sIx d e) fun d => bd (bd (vF 2) fun d => bd (sret (.int 1)) fun e => TW.sIx d e) fun e => sCmp .Eq d e) (bd (bd (bd (sCall F_count_alike (sArgV (vF 2) (sArgV (sret (.str "mirror")) (sret [])))) fun m => sopt (frz m)) sRepr) fun d => bd (bd (bd (sCall F__law_alike (sArgV (vF 2) (sArgV (sret (.str "mirror")) (sret [])))) fun m => sopt (frz m)) sRepr) fun e => sCmp .NotEq d e))
   (sRt (bd (sret (.bool false)) fun d => sret (.fz d)))
   sNx)
  (sSeq (sIf (sAnd (bd (bd (bd s_law_c3 fun m => sopt (frz m)) sAll) sTru) (bd (bd (bd (sCall F_count_alike (sArgV (vF 2) (sArgV (sret (.str "side")) (sret [])))) fun m => sopt (frz m)) sRepr) fun d => bd (bd (bd (sCall F__law_alike (sArgV (vF 2) (sArgV (sret (.str "side")) (sret [])))) fun m => sopt (frz m)) sRepr) fun e => sCmp .NotEq d e))
   (sRt (bd (sret (.bool false)) fun d => sret (.fz d)))
   sNx)
  (sSeq (sIf (sNot (bd (bd (sCall F__law_small (sArgV (bd (bd (bd (sConsE (bd (bd (sConsF (sret (.int 2)) (sConsF (sret (.int 2)) (sConsF (sret (.int 2)) sNilF))) fun ds => sret (.tuple ds)) fun d => sret (.fz d)) (sConsE (bd (bd (sConsF (sret (.int 3)) (sConsF (sret (.int 2)) (sConsF (sret (.int 2)) sNilF))) fun ds => sret (.tuple ds)) fun d => sret (.fz d)) (sConsE (bd (bd (sConsF (sret (.int 1)) (sConsF (sret (.int 3)) (sConsF (sret (.int 4)) sNilF))) fun ds => sret (.tuple ds)) fun d => sret (.fz d)) (sConsE (bd (bd (sConsF (sret (.int 3)) (sConsF (sret (.int 3)) (sConsF (sret (.int 2)) sNilF))) fun ds => sret (.tuple ds)) fun d => sret (.fz d)) (sConsE (bd (bd (sConsF (sret (.int 2)) (sConsF (sret (.int 2)) (sConsF (sret (.int 4)) sNilF))) fun ds => sret (.tuple ds)) fun d => sret (.fz d)) (sConsE (bd (bd (sConsF (sret (.int 2)) (sConsF (sret (.int 4)) (sConsF (sret (.int 2)) sNilF))) fun ds => sret (.tuple ds)) fun d => sret (.fz d)) sNilE)))))) fun ms => sret (.ml ms)) fun m => sopt (frz m)) fun d => bd (bd (sCall F__law_draw (sArgS 1 (sArgV (sret (.int 6)) (sret [])))) fun m => sopt (frz m)) fun e => TW.sIx d e) (sret []))) fun m => sopt (frz m)) sTru))
   (sRt (bd (sret (.bool false)) fun d => sret (.fz d)))
   sNx)
  (sSeq (sSet 4 (sCall F__law_drawn (sArgS 1 (sArgV (vF 2) (sret [])))))
  (sSeq (sAsg (gT 3 (gsC (gN 9) (gsC (gN 10) (gsC (gN 11) gsN)))) (vF 2))
  (sSeq (sSet 5 (bd (bd (vF 4) sRepr) fun d => sret (.fz d)))
  (sSeq (sIf (sOr (bd (bd (sCall F_check_heap (sArgV (vF 2) (sArgV (vF 4) (sret [])))) fun m => sopt (frz m)) fun d => bd (sret .none) fun e => sCmp .IsNot d e) (bd (bd (bd (sCall F_mirror (sArgV (vF 2) (sArgV (vF 4) (sret [])))) fun m => sopt (frz m)) sRepr) fun d => bd (bd (bd (sConsF (bd (sConsF (vF 10) (sConsF (vF 9) (sConsF (vF 11) sNilF))) fun ds => sret (.tuple ds)) (sConsF (bd (sCall F__law_mirror (sArgV (vF 4) (sret []))) fun m => sopt (frz m)) sNilF)) fun ds => sret (.tuple ds)) sRepr) fun e => sCmp .NotEq d e))
   (sRt (bd (sret (.bool false)) fun d => sret (.fz d)))
   sNx)
  (sSeq (sIf (bd (bd (bd (sCall F_other_side (sArgV (vF 2) (sArgV (vF 4) (sret [])))) fun m => sopt (frz m)) sRepr) fun d => bd (bd (bd (sConsF (vF 2) (sConsF (bd (sCall F__law_other (sArgV (vF 2) (sArgV (vF 4) (sret [])))) fun m => sopt (frz m)) sNilF)) fun ds => sret (.tuple ds)) sRepr) fun e => sCmp .NotEq d e)
   (sRt (bd (sret (.bool false)) fun d => sret (.fz d)))
   sNx)
  (sSeq (sIf (bd (bd (bd (sCall F_rolled (sArgV (vF 2) (sArgV (vF 4) (sret [])))) fun m => sopt (frz m)) sRepr) fun d => bd (bd (bd (sConsF (bd (sConsF (vF 10) (sConsF (vF 11) (sConsF (vF 9) sNilF))) fun ds => sret (.tuple ds)) (sConsF (bd (sCall F__law_rolled (sArgV (vF 2) (sArgV (vF 4) (sret [])))) fun m => sopt (frz m)) sNilF)) fun ds => sret (.tuple ds)) sRepr) fun e => sCmp .NotEq d e)
   (sRt (bd (sret (.bool false)) fun d => sret (.fz d)))
   sNx)
  (sSeq (sSet 6 (sCall F__law_paths (sArgV (vF 2) (sArgV (vF 4) (sret [])))))
  (sSeq (sIf (sOr (bd (bd (bd (sCall F_paths_of (sArgV (vF 2) (sArgV (vF 4) (sret [])))) fun m => sopt (frz m)) sRepr) fun d => bd (bd (vF 6) sRepr) fun e => sCmp .NotEq d e) (sOr (bd (bd (sCall F__law_meet (sArgV (vF 6) (sret []))) fun m => sopt (frz m)) sTru) (bd (bd (bd (sCall F_heap_of (sArgV (vF 2) (sArgV (vF 6) (sret [])))) fun m => sopt (frz m)) sRepr) fun d => bd (bd (vF 4) sRepr) fun e => sCmp .NotEq d e)))
   (sRt (bd (sret (.bool false)) fun d => sret (.fz d)))
   sNx)
  (sSeq (sFor (gN 7)
   s_law_f6 (bd (sret (.int 3)) sRg1))
  (sRt (bd (bd (bd (vF 4) sRepr) fun d => bd (vF 5) fun e => bd (sCmp .Eq d e) fun r => sret (.bool r)) fun d => sret (.fz d))))))))))))))))))))

end TW


set_option Elab.async false
set_option linter.all false
set_option maxRecDepth 100000
set_option maxHeartbeats 4000000
namespace TW
open PySem PySem.Spec PyProof.Rows L2
/-- what the module's names are -/
structure Gb (K : PySem.W.Frag) (mg : Str → Option Value) : Prop where
  m_abs : mg "abs" = none
  m_all : mg "all" = none
  m_any : mg "any" = none
  m_enumerate : mg "enumerate" = none
  m_int : mg "int" = none
  m_isinstance : mg "isinstance" = none
  m_len : mg "len" = none
  m_list : mg "list" = none
  m_min : mg "min" = none
  m_range : mg "range" = none
  m_repr : mg "repr" = none
  m_sum : mg "sum" = none
  m_tuple : mg "tuple" = none
  m_zip : mg "zip" = none
  i_LONGEST : ∃ t, mg "LONGEST" = some (.int 6 t)
  e_BadHeap : ∃ C, mg "BadHeap" = some (.ref C) ∧ PySem.W.excIn K C He.veBase "ValueError.__new__" = true ∧ PySem.W.keepIn K (.ref C) = true ∧ PySem.W.subIn K (.ref C) (.type "BaseException") = some true ∧ PySem.W.typeIn K (.ref C) = some (.type "type")
  e_OutOfRange : ∃ C, mg "OutOfRange" = some (.ref C) ∧ PySem.W.excIn K C He.veBase "ValueError.__new__" = true ∧ PySem.W.keepIn K (.ref C) = true ∧ PySem.W.subIn K (.ref C) (.type "BaseException") = some true ∧ PySem.W.typeIn K (.ref C) = some (.type "type")
theorem Gb.bn_abs {X : Cx} (G : Gb X.K X.mg) (h : Gl X "abs") (d : ("abs" == ("__debug__" : Str)) = false) : Bn X "abs" (.builtin "abs") := ⟨h, G.m_abs, by kernel_rfl, by decide, d⟩
theorem Gb.bn_all {X : Cx} (G : Gb X.K X.mg) (h : Gl X "all") (d : ("all" == ("__debug__" : Str)) = false) : Bn X "all" (.builtin "all") := ⟨h, G.m_all, by kernel_rfl, by decide, d⟩
theorem Gb.bn_any {X : Cx} (G : Gb X.K X.mg) (h : Gl X "any") (d : ("any" == ("__debug__" : Str)) = false) : Bn X "any" (.builtin "any") := ⟨h, G.m_any, by kernel_rfl, by decide, d⟩
theorem Gb.bn_enumerate {X : Cx} (G : Gb X.K X.mg) (h : Gl X "enumerate") (d : ("enumerate" == ("__debug__" : Str)) = false) : Bn X "enumerate" (.type "enumerate") := ⟨h, G.m_enumerate, by kernel_rfl, by decide, d⟩
theorem Gb.bn_int {X : Cx} (G : Gb X.K X.mg) (h : Gl X "int") (d : ("int" == ("__debug__" : Str)) = false) : Bn X "int" (.type "int") := ⟨h, G.m_int, by kernel_rfl, by decide, d⟩
theorem Gb.bn_isinstance {X : Cx} (G : Gb X.K X.mg) (h : Gl X "isinstance") (d : ("isinstance" == ("__debug__" : Str)) = false) : Bn X "isinstance" (.builtin "isinstance") := ⟨h, G.m_isinstance, by kernel_rfl, by decide, d⟩
theorem Gb.bn_len {X : Cx} (G : Gb X.K X.mg) (h : Gl X "len") (d : ("len" == ("__debug__" : Str)) = false) : Bn X "len" (.builtin "len") := ⟨h, G.m_len, by kernel_rfl, by decide, d⟩
theorem Gb.bn_list {X : Cx} (G : Gb X.K X.mg) (h : Gl X "list") (d : ("list" == ("__debug__" : Str)) = false) : Bn X "list" (.type "list") := ⟨h, G.m_list, by kernel_rfl, by decide, d⟩
theorem Gb.bn_min {X : Cx} (G : Gb X.K X.mg) (h : Gl X "min") (d : ("min" == ("__debug__" : Str)) = false) : Bn X "min" (.builtin "min") := ⟨h, G.m_min, by kernel_rfl, by decide, d⟩
theorem Gb.bn_range {X : Cx} (G : Gb X.K X.mg) (h : Gl X "range") (d : ("range" == ("__debug__" : Str)) = false) : Bn X "range" (.type "range") := ⟨h, G.m_range, by kernel_rfl, by decide, d⟩
theorem Gb.bn_repr {X : Cx} (G : Gb X.K X.mg) (h : Gl X "repr") (d : ("repr" == ("__debug__" : Str)) = false) : Bn X "repr" (.builtin "repr") := ⟨h, G.m_repr, by kernel_rfl, by decide, d⟩
theorem Gb.bn_sum {X : Cx} (G : Gb X.K X.mg) (h : Gl X "sum") (d : ("sum" == ("__debug__" : Str)) = false) : Bn X "sum" (.builtin "sum") := ⟨h, G.m_sum, by kernel_rfl, by decide, d⟩
theorem Gb.bn_tuple {X : Cx} (G : Gb X.K X.mg) (h : Gl X "tuple") (d : ("tuple" == ("__debug__" : Str)) = false) : Bn X "tuple" (.type "tuple") := ⟨h, G.m_tuple, by kernel_rfl, by decide, d⟩
theorem Gb.bn_zip {X : Cx} (G : Gb X.K X.mg) (h : Gl X "zip") (d : ("zip" == ("__debug__" : Str)) = false) : Bn X "zip" (.type "zip") := ⟨h, G.m_zip, by kernel_rfl, by decide, d⟩
theorem Gb.g_LONGEST {X : Cx} {Ex : XK} {q : Bool} {pos : Pos} (G : Gb X.K X.mg) (h : Gl X "LONGEST") : GE X Ex q RF (.Name "LONGEST" pos) (sret (.int 6)) := let ⟨_, e⟩ := G.i_LONGEST; ge_gint h e rfl
theorem sc__law_cell : FnScope ["script", "k"] ["script", "k"] (defScope (Hd.top 25)) := ⟨rfl, rfl, rfl, by decide +kernel, rfl, by decide +kernel, by decide +kernel⟩
theorem sc__law_stream : FnScope ["script", "k"] ["script", "k"] (defScope (Hd.top 26)) := ⟨rfl, rfl, rfl, by decide +kernel, rfl, by decide +kernel, by decide +kernel⟩
theorem sc__law_number : FnScope ["box", "i", "top", "low", "j", "k"] ["box"] (defScope (Hd.top 36)) := ⟨rfl, rfl, rfl, by decide +kernel, rfl, by decide +kernel, by decide +kernel⟩
theorem sc__law_draw : FnScope ["box", "many", "told"] ["box", "many"] (defScope (Hd.top 27)) := ⟨rfl, rfl, rfl, by decide +kernel, rfl, by decide +kernel, by decide +kernel⟩
theorem sc__law_drawn : FnScope ["stream", "box", "heap", "i", "a", "b", "c", "row", "j", "most"] ["stream", "box"] (defScope (Hd.top 30)) := ⟨rfl, rfl, rfl, by decide +kernel, rfl, by decide +kernel, by decide +kernel⟩
theorem sc__law_paths : FnScope ["box", "heap", "found", "row", "path", "high", "number"] ["box", "heap"] (defScope (Hd.top 34)) := ⟨rfl, rfl, rfl, by decide +kernel, rfl, by decide +kernel, by decide +kernel⟩
theorem sc_is_number : FnScope ["told", "least", "most"] ["told", "least", "most"] (defScope (Hd.top 5)) := ⟨rfl, rfl, rfl, by decide +kernel, rfl, by decide +kernel, by decide +kernel⟩
theorem sc_check_box : FnScope ["box", "item"] ["box"] (defScope (Hd.top 8)) := ⟨rfl, rfl, rfl, by decide +kernel, rfl, by decide +kernel, by decide +kernel⟩
theorem sc_places_of : FnScope ["box", "a", "b", "c", "i", "j", "k"] ["box"] (defScope (Hd.top 10)) := ⟨rfl, rfl, rfl, by decide +kernel, rfl, by decide +kernel, by decide +kernel⟩
theorem sc_sizes : FnScope ["box", "many", "told", "place", "number"] ["box"] (defScope (Hd.top 15)) := ⟨rfl, rfl, rfl, by decide +kernel, rfl, by decide +kernel, by decide +kernel⟩
theorem sc__law_heaps : FnScope ["box", "found", "spot", "a", "b", "c", "longer", "row", "most", "i", "k"] ["box"] (defScope (Hd.top 29)) := ⟨rfl, rfl, rfl, by decide +kernel, rfl, by decide +kernel, by decide +kernel⟩
theorem sc_many_heaps : FnScope ["box", "place", "above", "below"] ["box"] (defScope (Hd.top 11)) := ⟨rfl, rfl, rfl, by decide +kernel, rfl, by decide +kernel, by decide +kernel⟩
theorem sc_count_heaps : FnScope ["box"] ["box"] (defScope (Hd.top 12)) := ⟨rfl, rfl, rfl, by decide +kernel, rfl, by decide +kernel, by decide +kernel⟩
theorem sc_many_mirrored : FnScope ["a", "c", "i", "above", "below", "j"] ["a", "c"] (defScope (Hd.top 13)) := ⟨rfl, rfl, rfl, by decide +kernel, rfl, by decide +kernel, by decide +kernel⟩
theorem sc_count_alike : FnScope ["box", "way", "a", "b", "c", "half"] ["box", "way"] (defScope (Hd.top 14)) := ⟨rfl, rfl, rfl, by decide +kernel, rfl, by decide +kernel, by decide +kernel⟩
theorem sc__law_mirror : FnScope ["heap", "j", "row"] ["heap"] (defScope (Hd.top 31)) := ⟨rfl, rfl, rfl, by decide +kernel, rfl, by decide +kernel, by decide +kernel⟩
theorem sc__law_other : FnScope ["box", "heap", "row", "k"] ["box", "heap"] (defScope (Hd.top 32)) := ⟨rfl, rfl, rfl, by decide +kernel, rfl, by decide +kernel, by decide +kernel⟩
theorem sc__law_small : FnScope ["box", "every", "spread", "heap", "size", "side", "row"] ["box"] (defScope (Hd.top 39)) := ⟨rfl, rfl, rfl, by decide +kernel, rfl, by decide +kernel, by decide +kernel⟩
theorem sc__law_meet : FnScope ["paths", "seen", "i", "here", "letter", "x", "y", "point"] ["paths"] (defScope (Hd.top 35)) := ⟨rfl, rfl, rfl, by decide +kernel, rfl, by decide +kernel, by decide +kernel⟩
theorem sc_points_of : FnScope ["number", "path", "told", "letter", "x", "y"] ["number", "path"] (defScope (Hd.top 21)) := ⟨rfl, rfl, rfl, by decide +kernel, rfl, by decide +kernel, by decide +kernel⟩
theorem sc_row_of : FnScope ["path", "letter", "told", "height"] ["path"] (defScope (Hd.top 22)) := ⟨rfl, rfl, rfl, by decide +kernel, rfl, by decide +kernel, by decide +kernel⟩
theorem sc_heap_of : FnScope ["box", "paths", "points", "a", "b", "c", "point", "number", "path"] ["box", "paths"] (defScope (Hd.top 23)) := ⟨rfl, rfl, rfl, by decide +kernel, rfl, by decide +kernel, by decide +kernel⟩
theorem sc__law_times : FnScope ["box", "told", "more", "i", "j", "k", "power", "longer", "at"] ["box", "told", "more"] (defScope (Hd.top 37)) := ⟨rfl, rfl, rfl, by decide +kernel, rfl, by decide +kernel, by decide +kernel⟩
theorem sc_check_heap : FnScope ["box", "heap", "row", "lines", "a", "b", "c", "line", "place", "item"] ["box", "heap"] (defScope (Hd.top 9)) := ⟨rfl, rfl, rfl, by decide +kernel, rfl, by decide +kernel, by decide +kernel⟩
theorem sc_other_side : FnScope ["box", "heap", "row", "number"] ["box", "heap"] (defScope (Hd.top 17)) := ⟨rfl, rfl, rfl, by decide +kernel, rfl, by decide +kernel, by decide +kernel⟩
theorem sc_rolled : FnScope ["box", "heap", "told", "j", "a", "b", "c", "k", "row"] ["box", "heap"] (defScope (Hd.top 18)) := ⟨rfl, rfl, rfl, by decide +kernel, rfl, by decide +kernel, by decide +kernel⟩
theorem sc__law_alike : FnScope ["box", "way", "i", "a", "b", "c", "top", "low", "j"] ["box", "way"] (defScope (Hd.top 38)) := ⟨rfl, rfl, rfl, by decide +kernel, rfl, by decide +kernel, by decide +kernel⟩
theorem sc_mirror : FnScope ["box", "heap", "a", "b", "c", "j", "row"] ["box", "heap"] (defScope (Hd.top 16)) := ⟨rfl, rfl, rfl, by decide +kernel, rfl, by decide +kernel, by decide +kernel⟩
theorem sc__law_rolled : FnScope ["box", "heap", "found", "j", "k", "row"] ["box", "heap"] (defScope (Hd.top 33)) := ⟨rfl, rfl, rfl, by decide +kernel, rfl, by decide +kernel, by decide +kernel⟩
theorem sc_path_of : FnScope ["row", "high", "number", "told", "height"] ["row", "high"] (defScope (Hd.top 19)) := ⟨rfl, rfl, rfl, by decide +kernel, rfl, by decide +kernel, by decide +kernel⟩
theorem sc_paths_of : FnScope ["box", "heap", "row"] ["box", "heap"] (defScope (Hd.top 20)) := ⟨rfl, rfl, rfl, by decide +kernel, rfl, by decide +kernel, by decide +kernel⟩
theorem sc_law : FnScope ["script", "stream", "box", "due", "heap", "kept", "paths", "again", "told", "a", "b", "c", "drawn", "i", "path", "k", "side"] ["script"] (defScope (Hd.top 40)) := ⟨rfl, rfl, rfl, by decide +kernel, rfl, by decide +kernel, by decide +kernel⟩
section
variable {P : Program} {w : World} {K : PySem.W.Frag} {mg : Str → Option Value} {base : Heap} {f : Addr} {fd : FuncData}
theorem w__law_cell (G : Gb K mg)  (F : FunD K "_law_cell" "_law_cell" (defArgs (Hd.top 25)) (defBody (Hd.top 25)) (defScope (Hd.top 25)) [] [] f fd) (hm : mg "_law_cell" = some (.ref f)) : FnD P w K mg base (L2.CX P w) 1 "_law_cell" 2 F__law_cell := by
  refine fnD_of (N := ["script", "k"]) (ps := ["script", "k"]) (pin := [0, 1]) (fb := s__law_cell) F sc__law_cell rfl hm (F.bindsN fun _ _ _ _ _ _ us hl => match us, hl with | [_, _], _ => rfl) (by decide) fun cdv A outer s H E hr hgd => ?_
  exact (gss_one (gs_ret (ge_if (gt_cmp (room_u hr) (ge_vF rfl (Or.inl rfl) rfl rfl) (ge_view (ge_len (G.bn_len rfl rfl) (ge_vO rfl (Or.inl rfl) rfl rfl) rfl)) rfl) (ge_lift (ge_intOf (G.bn_int rfl rfl) (ge_ixO (ge_vO rfl (Or.inl rfl) rfl rfl) (ge_vF rfl (Or.inl rfl) rfl rfl) rfl) rfl)) (ge_lift gc_int))))

theorem w__law_stream (G : Gb K mg) (c__law_cell : FnD P w K mg base (L2.CX P w) 1 "_law_cell" 2 F__law_cell) (F : FunD K "_law_stream" "_law_stream" (defArgs (Hd.top 26)) (defBody (Hd.top 26)) (defScope (Hd.top 26)) [] [] f fd) (hm : mg "_law_stream" = some (.ref f)) : FnD P w K mg base (L2.CX P w) 2 "_law_stream" 2 F__law_stream := by
  refine fnD_of (N := ["script", "k"]) (ps := ["script", "k"]) (pin := [0, 1]) (fb := s__law_stream) F sc__law_stream rfl hm (F.bindsN fun _ _ _ _ _ _ us hl => match us, hl with | [_, _], _ => rfl) (by decide) fun cdv A outer s H E hr hgd => ?_
  exact (gss_one (gs_ret (ge_lst (ga_consE (ge_lift (ge_abs (G.bn_abs rfl rfl) (ge_fz (ge_call c__law_cell (hr.mono (by decide)) hgd rfl rfl (passes_call (takes_of rfl rfl rfl rfl) fun _ _ _ _ h => h) (gar_slot ⟨rfl, (Or.inl rfl), rfl, rfl⟩ (gar_val (ge_vF rfl (Or.inl rfl) rfl rfl) gar_nil rfl)) rfl rfl)) rfl)) (ga_consE (ge_add (ge_mod (ge_abs (G.bn_abs rfl rfl) (ge_fz (ge_call c__law_cell (hr.mono (by decide)) hgd rfl rfl (passes_call (takes_of rfl rfl rfl rfl) fun _ _ _ _ h => h) (gar_slot ⟨rfl, (Or.inl rfl), rfl, rfl⟩ (gar_val (ge_vF rfl (Or.inl rfl) rfl rfl) gar_nil rfl)) rfl rfl)) rfl) gc_int) gc_int) ga_nilE rfl) rfl) (by decide))))

theorem w__law_number (G : Gb K mg)  (F : FunD K "_law_number" "_law_number" (defArgs (Hd.top 36)) (defBody (Hd.top 36)) (defScope (Hd.top 36)) [] [] f fd) (hm : mg "_law_number" = some (.ref f)) : FnD P w K mg base (L2.CX P w) 1 "_law_number" 1 F__law_number := by
  refine fnD_of (N := ["box", "i", "top", "low", "j", "k"]) (ps := ["box"]) (pin := [0]) (fb := s__law_number) F sc__law_number rfl hm (F.bindsN fun _ _ _ _ _ _ us hl => match us, hl with | [_], _ => rfl) (by decide) fun cdv A outer s H E hr hgd => ?_
  exact (gss_cons (gs_asg (ge_tup (ga_consF gc_int (ga_consF gc_int ga_nilF rfl) rfl) (by decide)) (gg_tup rfl (ggs_cons (gg_name sc__law_number.nd rfl (Or.inl rfl) (Or.inr rfl)) (ggs_cons (gg_name sc__law_number.nd rfl (Or.inl rfl) (Or.inr rfl)) ggs_nil rfl) rfl) rfl) (by decide) rfl rfl rfl)
  (gss_cons (gs_for (passes_of rfl) rfl (gi_range2 rfl G.m_range gc_int (ge_fz (ge_add (ge_ixF (ge_vF rfl (Or.inl rfl) rfl rfl) gc_int rfl) gc_int)) rfl rfl) (gg_name sc__law_number.nd rfl (Or.inl rfl) (Or.inr rfl)) (by decide)
   (gss_one (gs_for (passes_of rfl) rfl (gi_range2 rfl G.m_range gc_int (ge_fz (ge_add (ge_ixF (ge_vF rfl (Or.inl rfl) rfl rfl) gc_int rfl) gc_int)) rfl rfl) (gg_name sc__law_number.nd rfl (Or.inl rfl) (Or.inr rfl)) (by decide)
     (gss_one (gs_for (passes_of rfl) rfl (gi_range2 rfl G.m_range gc_int (ge_fz (ge_add (ge_ixF (ge_vF rfl (Or.inl rfl) rfl rfl) gc_int rfl) gc_int)) rfl rfl) (gg_name sc__law_number.nd rfl (Or.inl rfl) (Or.inr rfl)) (by decide)
       (gss_cons (gs_set sc__law_number.nd rfl (Or.inl rfl) (by decide) (ge_mul (ge_vF rfl (Or.inl rfl) rfl rfl) (ge_sub (ge_fz (ge_add (ge_fz (ge_add (ge_vF rfl (Or.inl rfl) rfl rfl) (ge_vF rfl (Or.inl rfl) rfl rfl))) (ge_vF rfl (Or.inl rfl) rfl rfl))) gc_int)) rfl (Or.inr rfl))
        (gss_one (gs_set sc__law_number.nd rfl (Or.inl rfl) (by decide) (ge_mul (ge_vF rfl (Or.inl rfl) rfl rfl) (ge_sub (ge_fz (ge_add (ge_fz (ge_add (ge_vF rfl (Or.inl rfl) rfl rfl) (ge_vF rfl (Or.inl rfl) rfl rfl))) (ge_vF rfl (Or.inl rfl) rfl rfl))) gc_int)) rfl (Or.inr rfl)))) rfl)) rfl)) rfl)
  (gss_one (gs_ret (ge_lift (ge_div (ge_vF rfl (Or.inl rfl) rfl rfl) (ge_vF rfl (Or.inl rfl) rfl rfl)))))))

theorem w__law_draw (G : Gb K mg)  (F : FunD K "_law_draw" "_law_draw" (defArgs (Hd.top 27)) (defBody (Hd.top 27)) (defScope (Hd.top 27)) [] [] f fd) (hm : mg "_law_draw" = some (.ref f)) : FnD P w K mg base (L2.CX P w) 1 "_law_draw" 2 F__law_draw := by
  refine fnD_of (N := ["box", "many", "told"]) (ps := ["box", "many"]) (pin := [0, 1]) (fb := s__law_draw) F sc__law_draw rfl hm (F.bindsN fun _ _ _ _ _ _ us hl => match us, hl with | [_, _], _ => rfl) (by decide) fun cdv A outer s H E hr hgd => ?_
  exact (gss_cons (gs_if (gt_cmp (room_u hr) (ge_ixO (ge_vO rfl (Or.inl rfl) rfl rfl) gc_int rfl) (ge_view gc_int) rfl)
   (gss_cons (gs_set sc__law_draw.nd rfl (Or.inl rfl) (by decide) (ge_lift (ge_mod (ge_ixO (ge_vO rfl (Or.inl rfl) rfl rfl) gc_int rfl) (ge_vF rfl (Or.inl rfl) rfl rfl))) rfl (Or.inr rfl))
    (gss_cons (gs_setIx ⟨rfl, (Or.inl rfl), rfl, rfl⟩ (ge_lift (ge_div (ge_ixO (ge_vO rfl (Or.inl rfl) rfl rfl) gc_int rfl) (ge_vF rfl (Or.inl rfl) rfl rfl))) gc_int rfl rfl rfl (fun _ => rfl))
    (gss_one (gs_ret (ge_lift (ge_intOf (G.bn_int rfl rfl) (ge_vF rfl (Or.inl rfl) rfl rfl) rfl))))))
   gss_nil)
  (gss_cons (gs_setIx ⟨rfl, (Or.inl rfl), rfl, rfl⟩ (ge_lift (ge_mod (ge_intOf (G.bn_int rfl rfl) (ge_fz (ge_add (ge_fz (ge_mul (ge_ixO (ge_vO rfl (Or.inl rfl) rfl rfl) gc_int rfl) gc_int)) gc_int)) rfl) gc_int)) gc_int rfl rfl rfl (fun _ => rfl))
  (gss_one (gs_ret (ge_lift (ge_mod (ge_intOf (G.bn_int rfl rfl) (ge_div (ge_ixO (ge_vO rfl (Or.inl rfl) rfl rfl) gc_int rfl) gc_int) rfl) (ge_vF rfl (Or.inl rfl) rfl rfl)))))))

theorem w__law_drawn (G : Gb K mg) (c__law_draw : FnD P w K mg base (L2.CX P w) 1 "_law_draw" 2 F__law_draw) (F : FunD K "_law_drawn" "_law_drawn" (defArgs (Hd.top 30)) (defBody (Hd.top 30)) (defScope (Hd.top 30)) [] [] f fd) (hm : mg "_law_drawn" = some (.ref f)) : FnD P w K mg base (L2.CX P w) 2 "_law_drawn" 2 F__law_drawn := by
  refine fnD_of (N := ["stream", "box", "heap", "i", "a", "b", "c", "row", "j", "most"]) (ps := ["stream", "box"]) (pin := [0, 1]) (fb := s__law_drawn) F sc__law_drawn rfl hm (F.bindsN fun _ _ _ _ _ _ us hl => match us, hl with | [_, _], _ => rfl) (by decide) fun cdv A outer s H E hr hgd => ?_
  exact (gss_cons (gs_asg (ge_vF rfl (Or.inl rfl) rfl rfl) (gg_tup rfl (ggs_cons (gg_name sc__law_drawn.nd rfl (Or.inl rfl) (Or.inr rfl)) (ggs_cons (gg_name sc__law_drawn.nd rfl (Or.inl rfl) (Or.inr rfl)) (ggs_cons (gg_name sc__law_drawn.nd rfl (Or.inl rfl) (Or.inr rfl)) ggs_nil rfl) rfl) rfl) rfl) (by decide) rfl rfl rfl)
  (gss_cons (gs_set sc__law_drawn.nd rfl (Or.inl rfl) (by decide) (ge_lst ga_nilE (by decide)) rfl (Or.inr rfl))
  (gss_cons (gs_for (passes_of rfl) rfl (gi_range1 rfl G.m_range (ge_vF rfl (Or.inl rfl) rfl rfl) rfl) (gg_name sc__law_drawn.nd rfl (Or.inl rfl) (Or.inr rfl)) (by decide)
   (gss_cons (gs_set sc__law_drawn.nd rfl (Or.inl rfl) (by decide) (ge_lst ga_nilE (by decide)) rfl (Or.inr rfl))
    (gss_cons (gs_for (passes_of rfl) rfl (gi_range1 rfl G.m_range (ge_vF rfl (Or.inl rfl) rfl rfl) rfl) (gg_name sc__law_drawn.nd rfl (Or.inl rfl) (Or.inr rfl)) (by decide)
     (gss_cons (gs_set sc__law_drawn.nd rfl (Or.inl rfl) (by decide) (ge_if (gt_cmp (room_u hr) (ge_vF rfl (Or.inl rfl) rfl rfl) (ge_view gc_int) rfl) (ge_lift (ge_vF rfl (Or.inl rfl) rfl rfl)) (ge_lift (ge_ixO (ge_vO rfl (Or.inl rfl) rfl rfl) (ge_sub (ge_vF rfl (Or.inl rfl) rfl rfl) gc_int) rfl))) rfl (Or.inr rfl))
      (gss_cons (gs_if (gt_cmp (room_u hr) (ge_vF rfl (Or.inl rfl) rfl rfl) (ge_view gc_int) rfl)
       (gss_one (gs_set sc__law_drawn.nd rfl (Or.inl rfl) (by decide) (ge_lift (ge_min2 rfl (G.bn_min rfl rfl) (ge_vF rfl (Or.inl rfl) rfl rfl) (ge_ixF (ge_ixO (ge_vO rfl (Or.inl rfl) rfl rfl) (ge_sub (ge_vF rfl (Or.inl rfl) rfl rfl) gc_int) rfl) (ge_vF rfl (Or.inl rfl) rfl rfl) rfl) rfl rfl)) rfl (Or.inr rfl)))
       gss_nil)
      (gss_one (gs_expr (ge_append ⟨rfl, (Or.inl rfl), rfl, rfl⟩ (ge_lift (ge_sub (ge_vF rfl (Or.inl rfl) rfl rfl) (ge_fz (ge_mul (ge_fz (ge_call c__law_draw (hr.mono (by decide)) hgd rfl rfl (passes_call (takes_of rfl rfl rfl rfl) fun _ _ _ _ h => h) (gar_slot ⟨rfl, (Or.inl rfl), rfl, rfl⟩ (gar_val (ge_fz (ge_add (ge_vF rfl (Or.inl rfl) rfl rfl) gc_int)) gar_nil rfl)) rfl rfl)) (ge_fz (ge_call c__law_draw (hr.mono (by decide)) hgd rfl rfl (passes_call (takes_of rfl rfl rfl rfl) fun _ _ _ _ h => h) (gar_slot ⟨rfl, (Or.inl rfl), rfl, rfl⟩ (gar_val gc_int gar_nil rfl)) rfl rfl)))))) rfl rfl rfl rfl) rfl)))) rfl)
    (gss_one (gs_expr (ge_append ⟨rfl, (Or.inl rfl), rfl, rfl⟩ (ge_lift (ge_tupOf (G.bn_tuple rfl rfl) (ge_vO rfl (Or.inl rfl) rfl rfl) rfl)) rfl rfl rfl rfl) rfl)))) rfl)
  (gss_one (gs_ret (ge_lift (ge_tupOf (G.bn_tuple rfl rfl) (ge_vO rfl (Or.inl rfl) rfl rfl) rfl)))))))

theorem w__law_paths (G : Gb K mg)  (F : FunD K "_law_paths" "_law_paths" (defArgs (Hd.top 34)) (defBody (Hd.top 34)) (defScope (Hd.top 34)) [] [] f fd) (hm : mg "_law_paths" = some (.ref f)) : FnD P w K mg base (L2.CX P w) 1 "_law_paths" 2 F__law_paths := by
  refine fnD_of (N := ["box", "heap", "found", "row", "path", "high", "number"]) (ps := ["box", "heap"]) (pin := [0, 1]) (fb := s__law_paths) F sc__law_paths rfl hm (F.bindsN fun _ _ _ _ _ _ us hl => match us, hl with | [_, _], _ => rfl) (by decide) fun cdv A outer s H E hr hgd => ?_
  exact (gss_cons (gs_set sc__law_paths.nd rfl (Or.inl rfl) (by decide) (ge_lst ga_nilE (by decide)) rfl (Or.inr rfl))
  (gss_cons (gs_for (passes_of rfl) rfl (gi_seq (ge_vF rfl (Or.inl rfl) rfl rfl)) (gg_name sc__law_paths.nd rfl (Or.inl rfl) (Or.inr rfl)) (by decide)
   (gss_cons (gs_set sc__law_paths.nd rfl (Or.inl rfl) (by decide) (ge_lst ga_nilE (by decide)) rfl (Or.inr rfl))
    (gss_cons (gs_set sc__law_paths.nd rfl (Or.inl rfl) (by decide) (ge_lift gc_int) rfl (Or.inr rfl))
    (gss_cons (gs_for (passes_of rfl) rfl (gi_seq (ge_fz (ge_rev (ge_view (ge_vF rfl (Or.inl rfl) rfl rfl))))) (gg_name sc__law_paths.nd rfl (Or.inl rfl) (Or.inr rfl)) (by decide)
     (gss_cons (gs_set sc__law_paths.nd rfl (Or.inl rfl) (by decide) (ge_add (ge_fz (ge_add (ge_fz (ge_vE rfl (Or.inl rfl) rfl rfl)) (ge_fz (ge_mul (ge_fz (ge_lst (ga_consE (ge_lift gc_str) ga_nilE rfl) (by decide))) (ge_sub (ge_vF rfl (Or.inl rfl) rfl rfl) (ge_vF rfl (Or.inl rfl) rfl rfl)))))) (ge_fz (ge_lst (ga_consE (ge_lift gc_str) ga_nilE rfl) (by decide)))) rfl (Or.inr rfl))
      (gss_one (gs_set sc__law_paths.nd rfl (Or.inl rfl) (by decide) (ge_lift (ge_vF rfl (Or.inl rfl) rfl rfl)) rfl (Or.inr rfl)))) rfl)
    (gss_one (gs_expr (ge_append ⟨rfl, (Or.inl rfl), rfl, rfl⟩ (ge_lift (ge_tupOf (G.bn_tuple rfl rfl) (ge_view (ge_fz (ge_add (ge_fz (ge_vE rfl (Or.inl rfl) rfl rfl)) (ge_fz (ge_mul (ge_fz (ge_lst (ga_consE (ge_lift gc_str) ga_nilE rfl) (by decide))) (ge_sub (ge_ixF (ge_vF rfl (Or.inl rfl) rfl rfl) gc_int rfl) (ge_vF rfl (Or.inl rfl) rfl rfl))))))) rfl)) rfl rfl rfl rfl) rfl))))) rfl)
  (gss_one (gs_ret (ge_lift (ge_tupOf (G.bn_tuple rfl rfl) (ge_vO rfl (Or.inl rfl) rfl rfl) rfl))))))

theorem w_is_number (G : Gb K mg)  (F : FunD K "is_number" "is_number" (defArgs (Hd.top 5)) (defBody (Hd.top 5)) (defScope (Hd.top 5)) [] [] f fd) (hm : mg "is_number" = some (.ref f)) : FnD P w K mg base (L2.CX P w) 1 "is_number" 3 F_is_number := by
  refine fnD_of (N := ["told", "least", "most"]) (ps := ["told", "least", "most"]) (pin := [0, 1, 2]) (fb := s_is_number) F sc_is_number rfl hm (F.bindsN fun _ _ _ _ _ _ us hl => match us, hl with | [_, _, _], _ => rfl) (by decide) fun cdv A outer s H E hr hgd => ?_
  exact (gss_one (gs_ret (ge_lift (ge_and (ge_isi (G.bn_isinstance rfl rfl) (G.bn_int rfl rfl) (by decide) (ge_vF rfl (Or.inl rfl) rfl rfl) rfl) (ge_one (ge_chain (room_u hr) (ge_vF rfl (Or.inl rfl) rfl rfl) (ge_vF rfl (Or.inl rfl) rfl rfl) (ge_view (ge_vF rfl (Or.inl rfl) rfl rfl)) rfl))))))

theorem w_check_box (G : Gb K mg) (c_is_number : FnD P w K mg base (L2.CX P w) 1 "is_number" 3 F_is_number) (F : FunD K "check_box" "check_box" (defArgs (Hd.top 8)) (defBody (Hd.top 8)) (defScope (Hd.top 8)) [] [] f fd) (hm : mg "check_box" = some (.ref f)) : FnD P w K mg base (L2.CX P w) 2 "check_box" 1 F_check_box := by
  refine fnD_of (N := ["box", "item"]) (ps := ["box"]) (pin := [0]) (fb := s_check_box) F sc_check_box rfl hm (F.bindsN fun _ _ _ _ _ _ us hl => match us, hl with | [_], _ => rfl) (by decide) fun cdv A outer s H E hr hgd => ?_
  obtain ⟨_, x_OutOfRange⟩ := G.e_OutOfRange
  exact (gss_one (gs_if (gw_pt (gw_or (gt_not (gt_truth (ge_view (ge_isi (G.bn_isinstance rfl rfl) (G.bn_tuple rfl rfl) (by decide) (ge_vF rfl (Or.inl rfl) rfl rfl) rfl)) fun _ => rfl)) (gw_or (gt_cmp (room_u hr) (ge_len (G.bn_len rfl rfl) (ge_view (ge_vF rfl (Or.inl rfl) rfl rfl)) rfl) (ge_view gc_int) rfl) (gw_or1 (gt_not (gt_truth (ge_view (ge_all rfl (G.bn_all rfl rfl) (ge_view (ge_fz (ge_lcG (own' := [("item", 1)]) (body := fun env acc => appF _ env acc) rfl sc_check_box.nd (gi_seq (ge_vF rfl (Or.inl rfl) rfl rfl)) (blkOk_by rfl) rfl (by decide) (by decide) (fun _ _ _ => rfl) (fun _ _ _ _ _ => (gg_name sc_check_box.nd rfl (Or.inl rfl) (Or.inr rfl))) (fun _ _ _ _ _ => gts_nil) (fun _ _ _ _ _ => (gtl_last rfl (ge_call c_is_number (hr.mono (by decide)) hgd rfl rfl passL (gar_val (ge_vF rfl (Or.inl rfl) rfl rfl) (gar_val gc_int (gar_val (G.g_LONGEST rfl) gar_nil rfl) rfl) rfl) rfl rfl)))))) rfl)) fun _ => rfl))))))
   (gss_one (gs_raise rfl (takes_of rfl rfl rfl rfl) x_OutOfRange.1 (pmk_own PySem.F.excBase_ValueError x_OutOfRange.2.1 x_OutOfRange.1 x_OutOfRange.2.2.1 (raises_own x_OutOfRange.2.2.2.1 x_OutOfRange.2.2.2.2) rfl rfl)))
   gss_nil))

theorem w_places_of (G : Gb K mg)  (F : FunD K "places_of" "places_of" (defArgs (Hd.top 10)) (defBody (Hd.top 10)) (defScope (Hd.top 10)) [] [] f fd) (hm : mg "places_of" = some (.ref f)) : FnD P w K mg base (L2.CX P w) 1 "places_of" 1 F_places_of := by
  refine fnD_of (N := ["box", "a", "b", "c", "i", "j", "k"]) (ps := ["box"]) (pin := [0]) (fb := s_places_of) F sc_places_of rfl hm (F.bindsN fun _ _ _ _ _ _ us hl => match us, hl with | [_], _ => rfl) (by decide) fun cdv A outer s H E hr hgd => ?_
  exact (gss_cons (gs_asg (ge_vF rfl (Or.inl rfl) rfl rfl) (gg_tup rfl (ggs_cons (gg_name sc_places_of.nd rfl (Or.inl rfl) (Or.inr rfl)) (ggs_cons (gg_name sc_places_of.nd rfl (Or.inr rfl) (Or.inl rfl)) (ggs_cons (gg_name sc_places_of.nd rfl (Or.inr rfl) (Or.inl rfl)) ggs_nil rfl) rfl) rfl) rfl) (by decide) rfl rfl rfl)
  (gss_one (gs_ret (ge_lcG (own' := [("i", 4), ("j", 5), ("k", 6)]) (body := fun env acc => midF _ 1 _ env acc) rfl sc_places_of.nd (gi_range1 rfl G.m_range (ge_vF rfl (Or.inl rfl) rfl rfl) rfl) (blkOk_by rfl) rfl (by decide) (by decide) (fun _ _ _ => rfl) (fun _ _ _ _ _ => (gg_name sc_places_of.nd rfl (Or.inl rfl) (Or.inr rfl))) (fun _ _ _ _ _ => gts_nil) (fun _ _ _ _ _ => (gtl_mid rfl rfl (.inl ⟨_, _, _, _, rfl⟩) rfl rfl rfl (fun _ _ => rfl) (gi_range1 rfl G.m_range (ge_vF rfl (Or.inr (Or.inl rfl)) rfl rfl) rfl) (gg_name sc_places_of.nd rfl (Or.inl rfl) (Or.inr rfl)) gts_nil (gtl_mid rfl rfl (.inl ⟨_, _, _, _, rfl⟩) rfl rfl rfl (fun _ _ => rfl) (gi_range1 rfl G.m_range (ge_vF rfl (Or.inr (Or.inl rfl)) rfl rfl) rfl) (gg_name sc_places_of.nd rfl (Or.inl rfl) (Or.inr rfl)) gts_nil (gtl_last rfl (ge_add (ge_fz (ge_add (ge_fz (ge_add (ge_vF rfl (Or.inl rfl) rfl rfl) (ge_vF rfl (Or.inl rfl) rfl rfl))) (ge_vF rfl (Or.inl rfl) rfl rfl))) gc_int)) rfl (by decide) (by decide)) rfl (by decide) (by decide)))))))

theorem w_sizes (G : Gb K mg) (c_check_box : FnD P w K mg base (L2.CX P w) 2 "check_box" 1 F_check_box) (c_places_of : FnD P w K mg base (L2.CX P w) 1 "places_of" 1 F_places_of) (F : FunD K "sizes" "sizes" (defArgs (Hd.top 15)) (defBody (Hd.top 15)) (defScope (Hd.top 15)) [] [] f fd) (hm : mg "sizes" = some (.ref f)) : FnD P w K mg base (L2.CX P w) 3 "sizes" 1 F_sizes := by
  refine fnD_of (N := ["box", "many", "told", "place", "number"]) (ps := ["box"]) (pin := [0]) (fb := s_sizes) F sc_sizes rfl hm (F.bindsN fun _ _ _ _ _ _ us hl => match us, hl with | [_], _ => rfl) (by decide) fun cdv A outer s H E hr hgd => ?_
  exact (gss_cons (gs_expr (ge_call c_check_box (hr.mono (by decide)) hgd rfl rfl (passes_call (takes_of rfl rfl rfl rfl) fun _ _ _ _ h => h) (gar_val (ge_vF rfl (Or.inl rfl) rfl rfl) gar_nil rfl) rfl rfl) rfl)
  (gss_cons (gs_set sc_sizes.nd rfl (Or.inl rfl) (by decide) (ge_add (ge_fz (ge_mul (ge_fz (ge_mul (ge_ixF (ge_vF rfl (Or.inl rfl) rfl rfl) gc_int rfl) (ge_ixF (ge_vF rfl (Or.inl rfl) rfl rfl) gc_int rfl))) (ge_ixF (ge_vF rfl (Or.inl rfl) rfl rfl) gc_int rfl))) gc_int) rfl (Or.inr rfl))
  (gss_cons (gs_set sc_sizes.nd rfl (Or.inl rfl) (by decide) (ge_add (ge_fz (ge_lst (ga_consE (ge_lift gc_int) ga_nilE rfl) (by decide))) (ge_fz (ge_mul (ge_fz (ge_lst (ga_consE (ge_lift gc_int) ga_nilE rfl) (by decide))) (ge_sub (ge_vF rfl (Or.inl rfl) rfl rfl) gc_int)))) rfl (Or.inr rfl))
  (gss_cons (gs_for (passes_of rfl) rfl (gi_seq (ge_fz (ge_call c_places_of (hr.mono (by decide)) hgd rfl rfl (passes_call (takes_of rfl rfl rfl rfl) fun _ _ _ _ h => h) (gar_val (ge_vF rfl (Or.inl rfl) rfl rfl) gar_nil rfl) rfl rfl))) (gg_name sc_sizes.nd rfl (Or.inl rfl) (Or.inr rfl)) (by decide)
   (gss_cons (gs_for (passes_of rfl) rfl (gi_rangeDn rfl G.m_range (ge_sub (ge_vF rfl (Or.inl rfl) rfl rfl) gc_int) (ge_vF rfl (Or.inl rfl) rfl rfl) (ge_neg gc_int) rfl rfl) (gg_name sc_sizes.nd rfl (Or.inl rfl) (Or.inr rfl)) (by decide)
     (gss_one (gs_augIx ⟨rfl, (Or.inl rfl), rfl, rfl⟩ (ge_vF rfl (Or.inl rfl) rfl rfl) (ge_ixO (ge_vO rfl (Or.inl rfl) rfl rfl) (ge_sub (ge_sub (ge_vF rfl (Or.inl rfl) rfl rfl) (ge_vF rfl (Or.inl rfl) rfl rfl)) gc_int) rfl) (fun _ _ _ => rfl))) rfl)
    (gss_one (gs_for (passes_of rfl) rfl (gi_range2 rfl G.m_range (ge_vF rfl (Or.inl rfl) rfl rfl) (ge_vF rfl (Or.inl rfl) rfl rfl) rfl rfl) (gg_name sc_sizes.nd rfl (Or.inl rfl) (Or.inr rfl)) (by decide)
     (gss_one (gs_augIx ⟨rfl, (Or.inl rfl), rfl, rfl⟩ (ge_vF rfl (Or.inl rfl) rfl rfl) (ge_ixO (ge_vO rfl (Or.inl rfl) rfl rfl) (ge_sub (ge_vF rfl (Or.inl rfl) rfl rfl) (ge_vF rfl (Or.inl rfl) rfl rfl)) rfl) (fun _ _ _ => rfl))) rfl))) rfl)
  (gss_one (gs_ret (ge_lift (ge_tupOf (G.bn_tuple rfl rfl) (ge_vO rfl (Or.inl rfl) rfl rfl) rfl))))))))

theorem w__law_heaps (G : Gb K mg)  (F : FunD K "_law_heaps" "_law_heaps" (defArgs (Hd.top 29)) (defBody (Hd.top 29)) (defScope (Hd.top 29)) [] [] f fd) (hm : mg "_law_heaps" = some (.ref f)) : FnD P w K mg base (L2.CX P w) 1 "_law_heaps" 1 F__law_heaps := by
  refine fnD_of (N := ["box", "found", "spot", "a", "b", "c", "longer", "row", "most", "i", "k"]) (ps := ["box"]) (pin := [0]) (fb := s__law_heaps) F sc__law_heaps rfl hm (F.bindsN fun _ _ _ _ _ _ us hl => match us, hl with | [_], _ => rfl) (by decide) fun cdv A outer s H E hr hgd => ?_
  exact (gss_cons (gs_asg (ge_vF rfl (Or.inl rfl) rfl rfl) (gg_tup rfl (ggs_cons (gg_name sc__law_heaps.nd rfl (Or.inr rfl) (Or.inl rfl)) (ggs_cons (gg_name sc__law_heaps.nd rfl (Or.inr rfl) (Or.inl rfl)) (ggs_cons (gg_name sc__law_heaps.nd rfl (Or.inl rfl) (Or.inr rfl)) ggs_nil rfl) rfl) rfl) rfl) (by decide) rfl rfl rfl)
  (gss_cons (gs_set sc__law_heaps.nd rfl (Or.inl rfl) (by decide) (ge_lst (ga_consE (ge_lift (ge_tup ga_nilF (by decide))) ga_nilE rfl) (by decide)) rfl (Or.inr rfl))
  (gss_cons (gs_for (passes_of rfl) rfl (gi_range1 rfl G.m_range (ge_fz (ge_mul (ge_vF rfl (Or.inr (Or.inl rfl)) rfl rfl) (ge_vF rfl (Or.inr (Or.inl rfl)) rfl rfl))) rfl) (gg_name sc__law_heaps.nd rfl (Or.inl rfl) (Or.inr rfl)) (by decide)
   (gss_cons (gs_set sc__law_heaps.nd rfl (Or.inl rfl) (by decide) (ge_lst ga_nilE (by decide)) rfl (Or.inr rfl))
    (gss_cons (gs_for (passes_of rfl) rfl (gi_seq (ge_fz (ge_vE rfl (Or.inl rfl) rfl rfl))) (gg_name sc__law_heaps.nd rfl (Or.inr rfl) (Or.inl rfl)) (by decide)
     (gss_cons (gs_set sc__law_heaps.nd rfl (Or.inl rfl) (by decide) (ge_lift (ge_vF rfl (Or.inl rfl) rfl rfl)) rfl (Or.inr rfl))
      (gss_cons (gs_if (gt_cmp (room_u hr) (ge_mod (ge_vF rfl (Or.inl rfl) rfl rfl) (ge_vF rfl (Or.inr (Or.inl rfl)) rfl rfl)) (ge_view gc_int) rfl)
       (gss_one (gs_set sc__law_heaps.nd rfl (Or.inl rfl) (by decide) (ge_lift (ge_min2 rfl (G.bn_min rfl rfl) (ge_vF rfl (Or.inl rfl) rfl rfl) (ge_ixF (ge_vF rfl (Or.inr (Or.inl rfl)) rfl rfl) (ge_sub (ge_vF rfl (Or.inl rfl) rfl rfl) gc_int) rfl) rfl rfl)) rfl (Or.inr rfl)))
       gss_nil)
      (gss_cons (gs_if (gt_cmp (room_u hr) (ge_vF rfl (Or.inl rfl) rfl rfl) (ge_view (ge_vF rfl (Or.inr (Or.inl rfl)) rfl rfl)) rfl)
       (gss_one (gs_set sc__law_heaps.nd rfl (Or.inl rfl) (by decide) (ge_lift (ge_min2 rfl (G.bn_min rfl rfl) (ge_vF rfl (Or.inl rfl) rfl rfl) (ge_ixF (ge_vF rfl (Or.inr (Or.inl rfl)) rfl rfl) (ge_sub (ge_vF rfl (Or.inl rfl) rfl rfl) (ge_vF rfl (Or.inr (Or.inl rfl)) rfl rfl)) rfl) rfl rfl)) rfl (Or.inr rfl)))
       gss_nil)
      (gss_one (gs_set sc__law_heaps.nd rfl (Or.inl rfl) (by decide) (ge_add (ge_fz (ge_vE rfl (Or.inl rfl) rfl rfl)) (ge_fz (ge_lcG (own' := [("k", 10)]) (body := fun env acc => appF _ env acc) rfl sc__law_heaps.nd (gi_range1 rfl G.m_range (ge_fz (ge_add (ge_vF rfl (Or.inl rfl) rfl rfl) gc_int)) rfl) (blkOk_by rfl) rfl (by decide) (by decide) (fun _ _ _ => rfl) (fun _ _ _ _ _ => (gg_name sc__law_heaps.nd rfl (Or.inl rfl) (Or.inr rfl))) (fun _ _ _ _ _ => gts_nil) (fun _ _ _ _ _ => (gtl_last rfl (ge_add (ge_vF rfl (Or.inr (Or.inl rfl)) rfl rfl) (ge_tup (ga_consF (ge_vF rfl (Or.inl rfl) rfl rfl) ga_nilF rfl) (by decide)))))))) rfl (Or.inr rfl)))))) rfl)
    (gss_one (gs_set sc__law_heaps.nd rfl (Or.inl rfl) (by decide) (ge_vE rfl (Or.inl rfl) rfl rfl) rfl (Or.inr rfl))))) rfl)
  (gss_one (gs_ret (ge_lcG (own' := [("row", 7)]) (body := fun env acc => appF _ env acc) rfl sc__law_heaps.nd (gi_seq (ge_fz (ge_vE rfl (Or.inl rfl) rfl rfl))) (blkOk_by rfl) rfl (by decide) (by decide) (fun _ _ _ => rfl) (fun _ _ _ _ _ => (gg_name sc__law_heaps.nd rfl (Or.inr rfl) (Or.inl rfl))) (fun _ _ _ _ _ => gts_nil) (fun _ _ _ _ _ => (gtl_last rfl (ge_lift (ge_tupOf (G.bn_tuple rfl rfl) (ge_view (ge_fz (ge_lcG (own' := [("i", 9)]) (body := fun env acc => appF _ env acc) rfl sc__law_heaps.nd (gi_range1 rfl G.m_range (ge_vF rfl (Or.inr (Or.inl rfl)) rfl rfl) rfl) (blkOk_by rfl) rfl (by decide) (by decide) (fun _ _ _ => rfl) (fun _ _ _ _ _ => (gg_name sc__law_heaps.nd rfl (Or.inl rfl) (Or.inr rfl))) (fun _ _ _ _ _ => gts_nil) (fun _ _ _ _ _ => (gtl_last rfl (ge_slice (ge_view (ge_vF rfl (Or.inr (Or.inl rfl)) rfl rfl)) (gp_some (ge_fz (ge_mul (ge_vF rfl (Or.inl rfl) rfl rfl) (ge_vF rfl (Or.inr (Or.inl rfl)) rfl rfl)))) (gp_some (ge_fz (ge_add (ge_fz (ge_mul (ge_vF rfl (Or.inl rfl) rfl rfl) (ge_vF rfl (Or.inr (Or.inl rfl)) rfl rfl))) (ge_vF rfl (Or.inr (Or.inl rfl)) rfl rfl)))))))))) rfl))))))))))

theorem w_many_heaps (G : Gb K mg) (c_places_of : FnD P w K mg base (L2.CX P w) 1 "places_of" 1 F_places_of) (F : FunD K "many_heaps" "many_heaps" (defArgs (Hd.top 11)) (defBody (Hd.top 11)) (defScope (Hd.top 11)) [] [] f fd) (hm : mg "many_heaps" = some (.ref f)) : FnD P w K mg base (L2.CX P w) 2 "many_heaps" 1 F_many_heaps := by
  refine fnD_of (N := ["box", "place", "above", "below"]) (ps := ["box"]) (pin := [0]) (fb := s_many_heaps) F sc_many_heaps rfl hm (F.bindsN fun _ _ _ _ _ _ us hl => match us, hl with | [_], _ => rfl) (by decide) fun cdv A outer s H E hr hgd => ?_
  exact (gss_cons (gs_asg (ge_tup (ga_consF gc_int (ga_consF gc_int ga_nilF rfl) rfl) (by decide)) (gg_tup rfl (ggs_cons (gg_name sc_many_heaps.nd rfl (Or.inl rfl) (Or.inr rfl)) (ggs_cons (gg_name sc_many_heaps.nd rfl (Or.inl rfl) (Or.inr rfl)) ggs_nil rfl) rfl) rfl) (by decide) rfl rfl rfl)
  (gss_cons (gs_for (passes_of rfl) rfl (gi_seq (ge_fz (ge_call c_places_of (hr.mono (by decide)) hgd rfl rfl (passes_call (takes_of rfl rfl rfl rfl) fun _ _ _ _ h => h) (gar_val (ge_vF rfl (Or.inl rfl) rfl rfl) gar_nil rfl) rfl rfl))) (gg_name sc_many_heaps.nd rfl (Or.inl rfl) (Or.inr rfl)) (by decide)
   (gss_one (gs_par rfl sc_many_heaps.nd rfl rfl (by decide) rfl rfl (by decide) (by decide) (ga_consE (ge_mul (ge_vF rfl (Or.inl rfl) rfl rfl) (ge_fz (ge_add (ge_vF rfl (Or.inl rfl) rfl rfl) gc_int))) (ga_consE (ge_mul (ge_vF rfl (Or.inl rfl) rfl rfl) (ge_vF rfl (Or.inl rfl) rfl rfl)) ga_nilE rfl) rfl) rfl rfl)) rfl)
  (gss_one (gs_ret (ge_lift (ge_div (ge_vF rfl (Or.inl rfl) rfl rfl) (ge_vF rfl (Or.inl rfl) rfl rfl)))))))

theorem w_count_heaps (G : Gb K mg) (c_check_box : FnD P w K mg base (L2.CX P w) 2 "check_box" 1 F_check_box) (c_many_heaps : FnD P w K mg base (L2.CX P w) 2 "many_heaps" 1 F_many_heaps) (F : FunD K "count_heaps" "count_heaps" (defArgs (Hd.top 12)) (defBody (Hd.top 12)) (defScope (Hd.top 12)) [] [] f fd) (hm : mg "count_heaps" = some (.ref f)) : FnD P w K mg base (L2.CX P w) 3 "count_heaps" 1 F_count_heaps := by
  refine fnD_of (N := ["box"]) (ps := ["box"]) (pin := [0]) (fb := s_count_heaps) F sc_count_heaps rfl hm (F.bindsN fun _ _ _ _ _ _ us hl => match us, hl with | [_], _ => rfl) (by decide) fun cdv A outer s H E hr hgd => ?_
  exact (gss_cons (gs_expr (ge_call c_check_box (hr.mono (by decide)) hgd rfl rfl (passes_call (takes_of rfl rfl rfl rfl) fun _ _ _ _ h => h) (gar_val (ge_vF rfl (Or.inl rfl) rfl rfl) gar_nil rfl) rfl rfl) rfl)
  (gss_one (gs_ret (ge_call c_many_heaps (hr.mono (by decide)) hgd rfl rfl (passes_call (takes_of rfl rfl rfl rfl) fun _ _ _ _ h => h) (gar_val (ge_vF rfl (Or.inl rfl) rfl rfl) gar_nil rfl) rfl rfl))))

theorem w_many_mirrored (G : Gb K mg)  (F : FunD K "many_mirrored" "many_mirrored" (defArgs (Hd.top 13)) (defBody (Hd.top 13)) (defScope (Hd.top 13)) [] [] f fd) (hm : mg "many_mirrored" = some (.ref f)) : FnD P w K mg base (L2.CX P w) 1 "many_mirrored" 2 F_many_mirrored := by
  refine fnD_of (N := ["a", "c", "i", "above", "below", "j"]) (ps := ["a", "c"]) (pin := [0, 1]) (fb := s_many_mirrored) F sc_many_mirrored rfl hm (F.bindsN fun _ _ _ _ _ _ us hl => match us, hl with | [_, _], _ => rfl) (by decide) fun cdv A outer s H E hr hgd => ?_
  exact (gss_cons (gs_asg (ge_tup (ga_consF gc_int (ga_consF gc_int ga_nilF rfl) rfl) (by decide)) (gg_tup rfl (ggs_cons (gg_name sc_many_mirrored.nd rfl (Or.inl rfl) (Or.inr rfl)) (ggs_cons (gg_name sc_many_mirrored.nd rfl (Or.inl rfl) (Or.inr rfl)) ggs_nil rfl) rfl) rfl) (by decide) rfl rfl rfl)
  (gss_cons (gs_for (passes_of rfl) rfl (gi_range2 rfl G.m_range gc_int (ge_fz (ge_add (ge_vF rfl (Or.inl rfl) rfl rfl) gc_int)) rfl rfl) (gg_name sc_many_mirrored.nd rfl (Or.inl rfl) (Or.inr rfl)) (by decide)
   (gss_cons (gs_par rfl sc_many_mirrored.nd rfl rfl (by decide) rfl rfl (by decide) (by decide) (ga_consE (ge_mul (ge_vF rfl (Or.inl rfl) rfl rfl) (ge_sub (ge_fz (ge_add (ge_fz (ge_mul gc_int (ge_vF rfl (Or.inl rfl) rfl rfl))) (ge_vF rfl (Or.inl rfl) rfl rfl))) gc_int)) (ga_consE (ge_mul (ge_vF rfl (Or.inl rfl) rfl rfl) (ge_sub (ge_fz (ge_mul gc_int (ge_vF rfl (Or.inl rfl) rfl rfl))) gc_int)) ga_nilE rfl) rfl) rfl rfl)
    (gss_one (gs_for (passes_of rfl) rfl (gi_range2 rfl G.m_range (ge_fz (ge_add (ge_vF rfl (Or.inl rfl) rfl rfl) gc_int)) (ge_fz (ge_add (ge_vF rfl (Or.inl rfl) rfl rfl) gc_int)) rfl rfl) (gg_name sc_many_mirrored.nd rfl (Or.inl rfl) (Or.inr rfl)) (by decide)
     (gss_one (gs_par rfl sc_many_mirrored.nd rfl rfl (by decide) rfl rfl (by decide) (by decide) (ga_consE (ge_mul (ge_vF rfl (Or.inl rfl) rfl rfl) (ge_sub (ge_fz (ge_add (ge_fz (ge_add (ge_vF rfl (Or.inl rfl) rfl rfl) (ge_vF rfl (Or.inl rfl) rfl rfl))) (ge_vF rfl (Or.inl rfl) rfl rfl))) gc_int)) (ga_consE (ge_mul (ge_vF rfl (Or.inl rfl) rfl rfl) (ge_sub (ge_fz (ge_add (ge_vF rfl (Or.inl rfl) rfl rfl) (ge_vF rfl (Or.inl rfl) rfl rfl))) gc_int)) ga_nilE rfl) rfl) rfl rfl)) rfl))) rfl)
  (gss_one (gs_ret (ge_lift (ge_div (ge_vF rfl (Or.inl rfl) rfl rfl) (ge_vF rfl (Or.inl rfl) rfl rfl)))))))

theorem w_count_alike (G : Gb K mg) (c_check_box : FnD P w K mg base (L2.CX P w) 2 "check_box" 1 F_check_box) (c_many_heaps : FnD P w K mg base (L2.CX P w) 2 "many_heaps" 1 F_many_heaps) (c_many_mirrored : FnD P w K mg base (L2.CX P w) 1 "many_mirrored" 2 F_many_mirrored) (F : FunD K "count_alike" "count_alike" (defArgs (Hd.top 14)) (defBody (Hd.top 14)) (defScope (Hd.top 14)) [] [] f fd) (hm : mg "count_alike" = some (.ref f)) : FnD P w K mg base (L2.CX P w) 3 "count_alike" 2 F_count_alike := by
  refine fnD_of (N := ["box", "way", "a", "b", "c", "half"]) (ps := ["box", "way"]) (pin := [0, 1]) (fb := s_count_alike) F sc_count_alike rfl hm (F.bindsN fun _ _ _ _ _ _ us hl => match us, hl with | [_, _], _ => rfl) (by decide) fun cdv A outer s H E hr hgd => ?_
  obtain ⟨_, x_OutOfRange⟩ := G.e_OutOfRange
  exact (gss_cons (gs_expr (ge_call c_check_box (hr.mono (by decide)) hgd rfl rfl (passes_call (takes_of rfl rfl rfl rfl) fun _ _ _ _ h => h) (gar_val (ge_vF rfl (Or.inl rfl) rfl rfl) gar_nil rfl) rfl rfl) rfl)
  (gss_cons (gs_asg (ge_vF rfl (Or.inl rfl) rfl rfl) (gg_tup rfl (ggs_cons (gg_name sc_count_alike.nd rfl (Or.inl rfl) (Or.inr rfl)) (ggs_cons (gg_name sc_count_alike.nd rfl (Or.inl rfl) (Or.inr rfl)) (ggs_cons (gg_name sc_count_alike.nd rfl (Or.inl rfl) (Or.inr rfl)) ggs_nil rfl) rfl) rfl) rfl) (by decide) rfl rfl rfl)
  (gss_cons (gs_if (gw_pt (gw_and (gt_cmp (room_u hr) (ge_vF rfl (Or.inl rfl) rfl rfl) (ge_view gc_str) rfl) (gw_and (gt_cmp (room_u hr) (ge_mod (ge_vF rfl (Or.inl rfl) rfl rfl) gc_int) (ge_view gc_int) rfl) (gw_and (gt_cmp (room_u hr) (ge_mod (ge_vF rfl (Or.inl rfl) rfl rfl) gc_int) (ge_view gc_int) rfl) (gw_and1 (gt_cmp (room_u hr) (ge_mod (ge_vF rfl (Or.inl rfl) rfl rfl) gc_int) (ge_view gc_int) rfl))))))
   (gss_cons (gs_set sc_count_alike.nd rfl (Or.inl rfl) (by decide) (ge_call c_many_heaps (hr.mono (by decide)) hgd rfl rfl (passes_call (takes_of rfl rfl rfl rfl) fun _ _ _ _ h => h) (gar_val (ge_tup (ga_consF (ge_div (ge_vF rfl (Or.inl rfl) rfl rfl) gc_int) (ga_consF (ge_div (ge_vF rfl (Or.inl rfl) rfl rfl) gc_int) (ga_consF (ge_div (ge_vF rfl (Or.inl rfl) rfl rfl) gc_int) ga_nilF rfl) rfl) rfl) (by decide)) gar_nil rfl) rfl rfl) rfl (Or.inr rfl))
    (gss_one (gs_ret (ge_mul (ge_vF rfl (Or.inl rfl) rfl rfl) (ge_vF rfl (Or.inl rfl) rfl rfl)))))
   gss_nil)
  (gss_cons (gs_if (gw_pt (gw_and (gt_cmp (room_u hr) (ge_vF rfl (Or.inl rfl) rfl rfl) (ge_view gc_str) rfl) (gw_and1 (gt_cmp (room_u hr) (ge_vF rfl (Or.inl rfl) rfl rfl) (ge_view (ge_vF rfl (Or.inl rfl) rfl rfl)) rfl))))
   (gss_one (gs_ret (ge_call c_many_mirrored (hr.mono (by decide)) hgd rfl rfl (passes_call (takes_of rfl rfl rfl rfl) fun _ _ _ _ h => h) (gar_val (ge_vF rfl (Or.inl rfl) rfl rfl) (gar_val (ge_vF rfl (Or.inl rfl) rfl rfl) gar_nil rfl) rfl) rfl rfl)))
   gss_nil)
  (gss_one (gs_raise rfl (takes_of rfl rfl rfl rfl) x_OutOfRange.1 (pmk_own PySem.F.excBase_ValueError x_OutOfRange.2.1 x_OutOfRange.1 x_OutOfRange.2.2.1 (raises_own x_OutOfRange.2.2.2.1 x_OutOfRange.2.2.2.2) rfl rfl)))))))

theorem w__law_mirror (G : Gb K mg)  (F : FunD K "_law_mirror" "_law_mirror" (defArgs (Hd.top 31)) (defBody (Hd.top 31)) (defScope (Hd.top 31)) [] [] f fd) (hm : mg "_law_mirror" = some (.ref f)) : FnD P w K mg base (L2.CX P w) 1 "_law_mirror" 1 F__law_mirror := by
  refine fnD_of (N := ["heap", "j", "row"]) (ps := ["heap"]) (pin := [0]) (fb := s__law_mirror) F sc__law_mirror rfl hm (F.bindsN fun _ _ _ _ _ _ us hl => match us, hl with | [_], _ => rfl) (by decide) fun cdv A outer s H E hr hgd => ?_
  exact (gss_one (gs_ret (ge_lift (ge_tupOf (G.bn_tuple rfl rfl) (ge_view (ge_fz (ge_lcG (own' := [("j", 1)]) (body := fun env acc => appF _ env acc) rfl sc__law_mirror.nd (gi_range1 rfl G.m_range (ge_len (G.bn_len rfl rfl) (ge_view (ge_ixF (ge_vF rfl (Or.inr (Or.inl rfl)) rfl rfl) gc_int rfl)) rfl) rfl) (blkOk_by rfl) rfl (by decide) (by decide) (fun _ _ _ => rfl) (fun _ _ _ _ _ => (gg_name sc__law_mirror.nd rfl (Or.inr rfl) (Or.inl rfl))) (fun _ _ _ _ _ => gts_nil) (fun _ _ _ _ _ => (gtl_last rfl (ge_lift (ge_tupOf (G.bn_tuple rfl rfl) (ge_view (ge_fz (ge_lcG (own' := [("row", 2)]) (body := fun env acc => appF _ env acc) rfl sc__law_mirror.nd (gi_seq (ge_vF rfl (Or.inr (Or.inl rfl)) rfl rfl)) (blkOk_by rfl) rfl (by decide) (by decide) (fun _ _ _ => rfl) (fun _ _ _ _ _ => (gg_name sc__law_mirror.nd rfl (Or.inl rfl) (Or.inr rfl))) (fun _ _ _ _ _ => gts_nil) (fun _ _ _ _ _ => (gtl_last rfl (ge_lift (ge_ixF (ge_vF rfl (Or.inl rfl) rfl rfl) (ge_vF rfl (Or.inr (Or.inl rfl)) rfl rfl) rfl))))))) rfl))))))) rfl))))

theorem w__law_other (G : Gb K mg)  (F : FunD K "_law_other" "_law_other" (defArgs (Hd.top 32)) (defBody (Hd.top 32)) (defScope (Hd.top 32)) [] [] f fd) (hm : mg "_law_other" = some (.ref f)) : FnD P w K mg base (L2.CX P w) 1 "_law_other" 2 F__law_other := by
  refine fnD_of (N := ["box", "heap", "row", "k"]) (ps := ["box", "heap"]) (pin := [0, 1]) (fb := s__law_other) F sc__law_other rfl hm (F.bindsN fun _ _ _ _ _ _ us hl => match us, hl with | [_, _], _ => rfl) (by decide) fun cdv A outer s H E hr hgd => ?_
  exact (gss_one (gs_ret (ge_lift (ge_tupOf (G.bn_tuple rfl rfl) (ge_view (ge_fz (ge_lcG (own' := [("row", 2)]) (body := fun env acc => appF _ env acc) rfl sc__law_other.nd (gi_seq (ge_fz (ge_rev (ge_view (ge_vF rfl (Or.inl rfl) rfl rfl))))) (blkOk_by rfl) rfl (by decide) (by decide) (fun _ _ _ => rfl) (fun _ _ _ _ _ => (gg_name sc__law_other.nd rfl (Or.inl rfl) (Or.inr rfl))) (fun _ _ _ _ _ => gts_nil) (fun _ _ _ _ _ => (gtl_last rfl (ge_lift (ge_tupOf (G.bn_tuple rfl rfl) (ge_view (ge_fz (ge_lcG (own' := [("k", 3)]) (body := fun env acc => appF _ env acc) rfl sc__law_other.nd (gi_seq (ge_fz (ge_rev (ge_view (ge_vF rfl (Or.inl rfl) rfl rfl))))) (blkOk_by rfl) rfl (by decide) (by decide) (fun _ _ _ => rfl) (fun _ _ _ _ _ => (gg_name sc__law_other.nd rfl (Or.inl rfl) (Or.inr rfl))) (fun _ _ _ _ _ => gts_nil) (fun _ _ _ _ _ => (gtl_last rfl (ge_lift (ge_sub (ge_ixF (ge_vF rfl (Or.inr (Or.inl rfl)) rfl rfl) gc_int rfl) (ge_vF rfl (Or.inl rfl) rfl rfl)))))))) rfl))))))) rfl))))

theorem w__law_small (G : Gb K mg) (c__law_heaps : FnD P w K mg base (L2.CX P w) 1 "_law_heaps" 1 F__law_heaps) (c__law_mirror : FnD P w K mg base (L2.CX P w) 1 "_law_mirror" 1 F__law_mirror) (c__law_other : FnD P w K mg base (L2.CX P w) 1 "_law_other" 2 F__law_other) (c_count_alike : FnD P w K mg base (L2.CX P w) 3 "count_alike" 2 F_count_alike) (c_count_heaps : FnD P w K mg base (L2.CX P w) 3 "count_heaps" 1 F_count_heaps) (c_sizes : FnD P w K mg base (L2.CX P w) 3 "sizes" 1 F_sizes) (F : FunD K "_law_small" "_law_small" (defArgs (Hd.top 39)) (defBody (Hd.top 39)) (defScope (Hd.top 39)) [] [] f fd) (hm : mg "_law_small" = some (.ref f)) : FnD P w K mg base (L2.CX P w) 4 "_law_small" 1 F__law_small := by
  refine fnD_of (N := ["box", "every", "spread", "heap", "size", "side", "row"]) (ps := ["box"]) (pin := [0]) (fb := s__law_small) F sc__law_small rfl hm (F.bindsN fun _ _ _ _ _ _ us hl => match us, hl with | [_], _ => rfl) (by decide) fun cdv A outer s H E hr hgd => ?_
  exact (gss_cons (gs_set sc__law_small.nd rfl (Or.inl rfl) (by decide) (ge_call c__law_heaps (hr.mono (by decide)) hgd rfl rfl (passes_call (takes_of rfl rfl rfl rfl) fun _ _ _ _ h => h) (gar_val (ge_vF rfl (Or.inr (Or.inl rfl)) rfl rfl) gar_nil rfl) rfl rfl) rfl (Or.inr rfl))
  (gss_cons (gs_set sc__law_small.nd rfl (Or.inl rfl) (by decide) (ge_mul (ge_fz (ge_lst (ga_consE (ge_lift gc_int) ga_nilE rfl) (by decide))) (ge_fz (ge_add (ge_fz (ge_mul (ge_fz (ge_mul (ge_ixF (ge_vF rfl (Or.inr (Or.inl rfl)) rfl rfl) gc_int rfl) (ge_ixF (ge_vF rfl (Or.inr (Or.inl rfl)) rfl rfl) gc_int rfl))) (ge_ixF (ge_vF rfl (Or.inr (Or.inl rfl)) rfl rfl) gc_int rfl))) gc_int))) rfl (Or.inr rfl))
  (gss_cons (gs_for (passes_of rfl) rfl (gi_seq (ge_fz (ge_vE rfl (Or.inl rfl) rfl rfl))) (gg_name sc__law_small.nd rfl (Or.inl rfl) (Or.inr rfl)) (by decide)
   (gss_cons (gs_set sc__law_small.nd rfl (Or.inl rfl) (by decide) (ge_lift (ge_sumT rfl (G.bn_sum rfl rfl) (ge_view (ge_fz (ge_lcG (own' := [("row", 6)]) (body := fun env acc => appF _ env acc) rfl sc__law_small.nd (gi_seq (ge_vF rfl (Or.inl rfl) rfl rfl)) (blkOk_by rfl) rfl (by decide) (by decide) (fun _ _ _ => rfl) (fun _ _ _ _ _ => (gg_name sc__law_small.nd rfl (Or.inl rfl) (Or.inr rfl))) (fun _ _ _ _ _ => gts_nil) (fun _ _ _ _ _ => (gtl_last rfl (ge_lift (ge_sumT rfl (G.bn_sum rfl rfl) (ge_view (ge_vF rfl (Or.inl rfl) rfl rfl)) rfl))))))) rfl)) rfl (Or.inr rfl))
    (gss_one (gs_setIx ⟨rfl, (Or.inl rfl), rfl, rfl⟩ (ge_add (ge_ixO (ge_vO rfl (Or.inl rfl) rfl rfl) (ge_vF rfl (Or.inl rfl) rfl rfl) rfl) gc_int) (ge_vF rfl (Or.inl rfl) rfl rfl) rfl rfl rfl (fun _ => rfl)))) rfl)
  (gss_cons (gs_if (gw_pt (gw_or (gt_cmp (room_u hr) (ge_repr (room_u hr) hgd (G.bn_repr rfl rfl) (ge_view (ge_fz (ge_call c_sizes (hr.mono (by decide)) hgd rfl rfl (passes_call (takes_of rfl rfl rfl rfl) fun _ _ _ _ h => h) (gar_val (ge_vF rfl (Or.inr (Or.inl rfl)) rfl rfl) gar_nil rfl) rfl rfl))) rfl) (ge_view (ge_repr (room_u hr) hgd (G.bn_repr rfl rfl) (ge_view (ge_tupOf (G.bn_tuple rfl rfl) (ge_vO rfl (Or.inl rfl) rfl rfl) rfl)) rfl)) rfl) (gw_or1 (gt_cmp (room_u hr) (ge_fz (ge_call c_count_heaps (hr.mono (by decide)) hgd rfl rfl (passes_call (takes_of rfl rfl rfl rfl) fun _ _ _ _ h => h) (gar_val (ge_vF rfl (Or.inr (Or.inl rfl)) rfl rfl) gar_nil rfl) rfl rfl)) (ge_view (ge_len (G.bn_len rfl rfl) (ge_vO rfl (Or.inl rfl) rfl rfl) rfl)) rfl))))
   (gss_one (gs_ret (ge_lift gc_bool)))
   gss_nil)
  (gss_cons (gs_if (gw_pt (gw_and (gt_cmp (room_u hr) (ge_ixF (ge_vF rfl (Or.inr (Or.inl rfl)) rfl rfl) gc_int rfl) (ge_view (ge_ixF (ge_vF rfl (Or.inr (Or.inl rfl)) rfl rfl) gc_int rfl)) rfl) (gw_and1 (gt_cmp (room_u hr) (ge_fz (ge_call c_count_alike (hr.mono (by decide)) hgd rfl rfl (passes_call (takes_of rfl rfl rfl rfl) fun _ _ _ _ h => h) (gar_val (ge_vF rfl (Or.inr (Or.inl rfl)) rfl rfl) (gar_val gc_str gar_nil rfl) rfl) rfl rfl)) (ge_view (ge_len (G.bn_len rfl rfl) (ge_view (ge_fz (ge_lcG (own' := [("heap", 3)]) (body := fun env acc => appF _ env acc) rfl sc__law_small.nd (gi_seq (ge_fz (ge_vE rfl (Or.inl rfl) rfl rfl))) (blkOk_by rfl) rfl (by decide) (by decide) (fun _ _ _ => rfl) (fun _ _ _ _ _ => (gg_name sc__law_small.nd rfl (Or.inl rfl) (Or.inr rfl))) (fun _ _ _ _ _ => (gts_one (gt_cmp (room_u hr) (ge_fz (ge_call c__law_mirror (hr.mono (by decide)) hgd rfl rfl passL (gar_val (ge_vF rfl (Or.inl rfl) rfl rfl) gar_nil rfl) rfl rfl)) (ge_view (ge_vF rfl (Or.inl rfl) rfl rfl)) rfl))) (fun _ _ _ _ _ => (gtl_last rfl (ge_lift (ge_vF rfl (Or.inl rfl) rfl rfl))))))) rfl)) rfl))))
   (gss_one (gs_ret (ge_lift gc_bool)))
   gss_nil)
  (gss_cons (gs_if (gt_truth (ge_view (ge_all rfl (G.bn_all rfl rfl) (ge_view (ge_fz (ge_lcG (own' := [("side", 5)]) (body := fun env acc => appF _ env acc) rfl sc__law_small.nd (gi_seq (ge_vF rfl (Or.inr (Or.inl rfl)) rfl rfl)) (blkOk_by rfl) rfl (by decide) (by decide) (fun _ _ _ => rfl) (fun _ _ _ _ _ => (gg_name sc__law_small.nd rfl (Or.inl rfl) (Or.inr rfl))) (fun _ _ _ _ _ => gts_nil) (fun _ _ _ _ _ => (gtl_last rfl (ge_lift (ge_cmp (room_u hr) (ge_mod (ge_vF rfl (Or.inl rfl) rfl rfl) gc_int) (ge_view gc_int) rfl))))))) rfl)) fun _ => rfl)
   (gss_one (gs_ret (ge_lift (ge_cmp (room_u hr) (ge_fz (ge_call c_count_alike (hr.mono (by decide)) hgd rfl rfl (passes_call (takes_of rfl rfl rfl rfl) fun _ _ _ _ h => h) (gar_val (ge_vF rfl (Or.inr (Or.inl rfl)) rfl rfl) (gar_val gc_str gar_nil rfl) rfl) rfl rfl)) (ge_view (ge_len (G.bn_len rfl rfl) (ge_view (ge_fz (ge_lcG (own' := [("heap", 3)]) (body := fun env acc => appF _ env acc) rfl sc__law_small.nd (gi_seq (ge_fz (ge_vE rfl (Or.inl rfl) rfl rfl))) (blkOk_by rfl) rfl (by decide) (by decide) (fun _ _ _ => rfl) (fun _ _ _ _ _ => (gg_name sc__law_small.nd rfl (Or.inl rfl) (Or.inr rfl))) (fun _ _ _ _ _ => (gts_one (gt_cmp (room_u hr) (ge_fz (ge_call c__law_other (hr.mono (by decide)) hgd rfl rfl passL (gar_val (ge_vF rfl (Or.inr (Or.inl rfl)) rfl rfl) (gar_val (ge_vF rfl (Or.inl rfl) rfl rfl) gar_nil rfl) rfl) rfl rfl)) (ge_view (ge_vF rfl (Or.inl rfl) rfl rfl)) rfl))) (fun _ _ _ _ _ => (gtl_last rfl (ge_lift (ge_vF rfl (Or.inl rfl) rfl rfl))))))) rfl)) rfl))))
   gss_nil)
  (gss_one (gs_ret (ge_lift gc_bool)))))))))

theorem w__law_meet (G : Gb K mg)  (F : FunD K "_law_meet" "_law_meet" (defArgs (Hd.top 35)) (defBody (Hd.top 35)) (defScope (Hd.top 35)) [] [] f fd) (hm : mg "_law_meet" = some (.ref f)) : FnD P w K mg base (L2.CX P w) 1 "_law_meet" 1 F__law_meet := by
  refine fnD_of (N := ["paths", "seen", "i", "here", "letter", "x", "y", "point"]) (ps := ["paths"]) (pin := [0]) (fb := s__law_meet) F sc__law_meet rfl hm (F.bindsN fun _ _ _ _ _ _ us hl => match us, hl with | [_], _ => rfl) (by decide) fun cdv A outer s H E hr hgd => ?_
  exact (gss_cons (gs_set sc__law_meet.nd rfl (Or.inr rfl) (by decide) (ge_lst ga_nilE (by decide)) rfl (Or.inl rfl))
  (gss_cons (gs_for (passes_of rfl) rfl (gi_range1 rfl G.m_range (ge_len (G.bn_len rfl rfl) (ge_view (ge_vF rfl (Or.inl rfl) rfl rfl)) rfl) rfl) (gg_name sc__law_meet.nd rfl (Or.inl rfl) (Or.inr rfl)) (by decide)
   (gss_cons (gs_par rfl sc__law_meet.nd rfl rfl (by decide) rfl rfl (by decide) (by decide) (ga_consE (ge_lift (ge_vF rfl (Or.inl rfl) rfl rfl)) (ga_consE (ge_lift (ge_sub gc_int (ge_vF rfl (Or.inl rfl) rfl rfl))) ga_nilE rfl) rfl) rfl rfl)
    (gss_cons (gs_set sc__law_meet.nd rfl (Or.inl rfl) (by decide) (ge_lst (ga_consE (ge_lift (ge_tup (ga_consF (ge_vF rfl (Or.inl rfl) rfl rfl) (ga_consF (ge_vF rfl (Or.inl rfl) rfl rfl) ga_nilF rfl) rfl) (by decide))) ga_nilE rfl) (by decide)) rfl (Or.inr rfl))
    (gss_cons (gs_for (passes_of rfl) rfl (gi_seq (ge_ixF (ge_vF rfl (Or.inl rfl) rfl rfl) (ge_vF rfl (Or.inl rfl) rfl rfl) rfl)) (gg_name sc__law_meet.nd rfl (Or.inl rfl) (Or.inr rfl)) (by decide)
     (gss_cons (gs_asg (ge_if (gt_cmp (room_u hr) (ge_vF rfl (Or.inl rfl) rfl rfl) (ge_view gc_str) rfl) (ge_tup (ga_consF (ge_fz (ge_add (ge_vF rfl (Or.inl rfl) rfl rfl) gc_int)) (ga_consF (ge_vF rfl (Or.inl rfl) rfl rfl) ga_nilF rfl) rfl) (by decide)) (ge_tup (ga_consF (ge_vF rfl (Or.inl rfl) rfl rfl) (ga_consF (ge_fz (ge_add (ge_vF rfl (Or.inl rfl) rfl rfl) gc_int)) ga_nilF rfl) rfl) (by decide))) (gg_tup rfl (ggs_cons (gg_name sc__law_meet.nd rfl (Or.inl rfl) (Or.inr rfl)) (ggs_cons (gg_name sc__law_meet.nd rfl (Or.inl rfl) (Or.inr rfl)) ggs_nil rfl) rfl) rfl) (by decide) rfl rfl rfl)
      (gss_one (gs_expr (ge_append ⟨rfl, (Or.inl rfl), rfl, rfl⟩ (ge_lift (ge_tup (ga_consF (ge_vF rfl (Or.inl rfl) rfl rfl) (ga_consF (ge_vF rfl (Or.inl rfl) rfl rfl) ga_nilF rfl) rfl) (by decide))) rfl rfl rfl rfl) rfl))) rfl)
    (gss_cons (gs_if (gt_truth (ge_view (ge_any rfl (G.bn_any rfl rfl) (ge_view (ge_fz (ge_lcG (own' := [("point", 7)]) (body := fun env acc => appF _ env acc) rfl sc__law_meet.nd (gi_seq (ge_fz (ge_vE rfl (Or.inl rfl) rfl rfl))) (blkOk_by rfl) rfl (by decide) (by decide) (fun _ _ _ => rfl) (fun _ _ _ _ _ => (gg_name sc__law_meet.nd rfl (Or.inl rfl) (Or.inr rfl))) (fun _ _ _ _ _ => gts_nil) (fun _ _ _ _ _ => (gtl_last rfl (ge_lift (ge_cmp (room_u hr) (ge_vF rfl (Or.inl rfl) rfl rfl) (ge_vO rfl (Or.inr (Or.inl rfl)) rfl rfl) rfl))))))) rfl)) fun _ => rfl)
     (gss_one (gs_ret (ge_lift gc_bool)))
     gss_nil)
    (gss_one (gs_set sc__law_meet.nd rfl (Or.inr rfl) (by decide) (ge_add (ge_fz (ge_vE rfl (Or.inr (Or.inl rfl)) rfl rfl)) (ge_fz (ge_vE rfl (Or.inl rfl) rfl rfl))) rfl (Or.inl rfl))))))) rfl)
  (gss_one (gs_ret (ge_lift gc_bool)))))

theorem w_points_of (G : Gb K mg)  (F : FunD K "points_of" "points_of" (defArgs (Hd.top 21)) (defBody (Hd.top 21)) (defScope (Hd.top 21)) [] [] f fd) (hm : mg "points_of" = some (.ref f)) : FnD P w K mg base (L2.CX P w) 1 "points_of" 2 F_points_of := by
  refine fnD_of (N := ["number", "path", "told", "letter", "x", "y"]) (ps := ["number", "path"]) (pin := [0, 1]) (fb := s_points_of) F sc_points_of rfl hm (F.bindsN fun _ _ _ _ _ _ us hl => match us, hl with | [_, _], _ => rfl) (by decide) fun cdv A outer s H E hr hgd => ?_
  exact (gss_cons (gs_par rfl sc_points_of.nd rfl rfl (by decide) rfl rfl (by decide) (by decide) (ga_consE (ge_lift (ge_vF rfl (Or.inl rfl) rfl rfl)) (ga_consE (ge_lift (ge_neg (ge_vF rfl (Or.inl rfl) rfl rfl))) ga_nilE rfl) rfl) rfl rfl)
  (gss_cons (gs_set sc_points_of.nd rfl (Or.inl rfl) (by decide) (ge_lst (ga_consE (ge_lift (ge_tup (ga_consF (ge_vF rfl (Or.inl rfl) rfl rfl) (ga_consF (ge_vF rfl (Or.inl rfl) rfl rfl) ga_nilF rfl) rfl) (by decide))) ga_nilE rfl) (by decide)) rfl (Or.inr rfl))
  (gss_cons (gs_for (passes_of rfl) rfl (gi_seq (ge_vF rfl (Or.inl rfl) rfl rfl)) (gg_name sc_points_of.nd rfl (Or.inl rfl) (Or.inr rfl)) (by decide)
   (gss_cons (gs_asg (ge_if (gt_cmp (room_u hr) (ge_vF rfl (Or.inl rfl) rfl rfl) (ge_view gc_str) rfl) (ge_tup (ga_consF (ge_fz (ge_add (ge_vF rfl (Or.inl rfl) rfl rfl) gc_int)) (ga_consF (ge_vF rfl (Or.inl rfl) rfl rfl) ga_nilF rfl) rfl) (by decide)) (ge_tup (ga_consF (ge_vF rfl (Or.inl rfl) rfl rfl) (ga_consF (ge_fz (ge_add (ge_vF rfl (Or.inl rfl) rfl rfl) gc_int)) ga_nilF rfl) rfl) (by decide))) (gg_tup rfl (ggs_cons (gg_name sc_points_of.nd rfl (Or.inl rfl) (Or.inr rfl)) (ggs_cons (gg_name sc_points_of.nd rfl (Or.inl rfl) (Or.inr rfl)) ggs_nil rfl) rfl) rfl) (by decide) rfl rfl rfl)
    (gss_one (gs_expr (ge_append ⟨rfl, (Or.inl rfl), rfl, rfl⟩ (ge_lift (ge_tup (ga_consF (ge_vF rfl (Or.inl rfl) rfl rfl) (ga_consF (ge_vF rfl (Or.inl rfl) rfl rfl) ga_nilF rfl) rfl) (by decide))) rfl rfl rfl rfl) rfl))) rfl)
  (gss_one (gs_ret (ge_vM rfl (Or.inl rfl) rfl rfl))))))

theorem w_row_of (G : Gb K mg)  (F : FunD K "row_of" "row_of" (defArgs (Hd.top 22)) (defBody (Hd.top 22)) (defScope (Hd.top 22)) [] [] f fd) (hm : mg "row_of" = some (.ref f)) : FnD P w K mg base (L2.CX P w) 1 "row_of" 1 F_row_of := by
  refine fnD_of (N := ["path", "letter", "told", "height"]) (ps := ["path"]) (pin := [0]) (fb := s_row_of) F sc_row_of rfl hm (F.bindsN fun _ _ _ _ _ _ us hl => match us, hl with | [_], _ => rfl) (by decide) fun cdv A outer s H E hr hgd => ?_
  exact (gss_cons (gs_par rfl sc_row_of.nd rfl rfl (by decide) rfl rfl (by decide) (by decide) (ga_consE (ge_lst ga_nilE (by decide)) (ga_consE (ge_lift gc_int) ga_nilE rfl) rfl) rfl rfl)
  (gss_cons (gs_for (passes_of rfl) rfl (gi_seq (ge_vF rfl (Or.inl rfl) rfl rfl)) (gg_name sc_row_of.nd rfl (Or.inl rfl) (Or.inr rfl)) (by decide)
   (gss_one (gs_if (gt_cmp (room_u hr) (ge_vF rfl (Or.inl rfl) rfl rfl) (ge_view gc_str) rfl)
     (gss_one (gs_aug sc_row_of.nd rfl (Or.inl rfl) (by decide) gc_int (Or.inr rfl)))
     (gss_one (gs_expr (ge_append ⟨rfl, (Or.inl rfl), rfl, rfl⟩ (ge_lift (ge_vF rfl (Or.inl rfl) rfl rfl)) rfl rfl rfl rfl) rfl)))) rfl)
  (gss_one (gs_ret (ge_lift (ge_tupOf (G.bn_tuple rfl rfl) (ge_view (ge_fz (ge_rev (ge_vO rfl (Or.inl rfl) rfl rfl)))) rfl))))))

theorem w_heap_of (G : Gb K mg) (c_check_box : FnD P w K mg base (L2.CX P w) 2 "check_box" 1 F_check_box) (c_points_of : FnD P w K mg base (L2.CX P w) 1 "points_of" 2 F_points_of) (c_row_of : FnD P w K mg base (L2.CX P w) 1 "row_of" 1 F_row_of) (F : FunD K "heap_of" "heap_of" (defArgs (Hd.top 23)) (defBody (Hd.top 23)) (defScope (Hd.top 23)) [] [] f fd) (hm : mg "heap_of" = some (.ref f)) : FnD P w K mg base (L2.CX P w) 3 "heap_of" 2 F_heap_of := by
  refine fnD_of (N := ["box", "paths", "points", "a", "b", "c", "point", "number", "path"]) (ps := ["box", "paths"]) (pin := [0, 1]) (fb := s_heap_of) F sc_heap_of rfl hm (F.bindsN fun _ _ _ _ _ _ us hl => match us, hl with | [_, _], _ => rfl) (by decide) fun cdv A outer s H E hr hgd => ?_
  obtain ⟨_, x_OutOfRange⟩ := G.e_OutOfRange
  exact (gss_cons (gs_expr (ge_call c_check_box (hr.mono (by decide)) hgd rfl rfl (passes_call (takes_of rfl rfl rfl rfl) fun _ _ _ _ h => h) (gar_val (ge_vF rfl (Or.inl rfl) rfl rfl) gar_nil rfl) rfl rfl) rfl)
  (gss_cons (gs_asg (ge_vF rfl (Or.inl rfl) rfl rfl) (gg_tup rfl (ggs_cons (gg_name sc_heap_of.nd rfl (Or.inl rfl) (Or.inr rfl)) (ggs_cons (gg_name sc_heap_of.nd rfl (Or.inr rfl) (Or.inl rfl)) (ggs_cons (gg_name sc_heap_of.nd rfl (Or.inr rfl) (Or.inl rfl)) ggs_nil rfl) rfl) rfl) rfl) (by decide) rfl rfl rfl)
  (gss_cons (gs_if (gw_pt (gw_or (gt_not (gt_truth (ge_view (ge_isi (G.bn_isinstance rfl rfl) (G.bn_tuple rfl rfl) (by decide) (ge_vF rfl (Or.inl rfl) rfl rfl) rfl)) fun _ => rfl)) (gw_or (gt_cmp (room_u hr) (ge_len (G.bn_len rfl rfl) (ge_view (ge_vF rfl (Or.inl rfl) rfl rfl)) rfl) (ge_view (ge_vF rfl (Or.inl rfl) rfl rfl)) rfl) (gw_or1 (gt_not (gt_truth (ge_view (ge_all rfl (G.bn_all rfl rfl) (ge_view (ge_fz (ge_lcG (own' := [("path", 8)]) (body := fun env acc => appF _ env acc) rfl sc_heap_of.nd (gi_seq (ge_vF rfl (Or.inl rfl) rfl rfl)) (blkOk_by rfl) rfl (by decide) (by decide) (fun _ _ _ => rfl) (fun _ _ _ _ _ => (gg_name sc_heap_of.nd rfl (Or.inl rfl) (Or.inr rfl))) (fun _ _ _ _ _ => gts_nil) (fun _ _ _ _ _ => (gtl_last rfl (ge_lift (ge_isi (G.bn_isinstance rfl rfl) (G.bn_tuple rfl rfl) (by decide) (ge_vF rfl (Or.inl rfl) rfl rfl) rfl))))))) rfl)) fun _ => rfl))))))
   (gss_one (gs_raise rfl (takes_of rfl rfl rfl rfl) x_OutOfRange.1 (pmk_own PySem.F.excBase_ValueError x_OutOfRange.2.1 x_OutOfRange.1 x_OutOfRange.2.2.1 (raises_own x_OutOfRange.2.2.2.1 x_OutOfRange.2.2.2.2) rfl rfl)))
   gss_nil)
  (gss_cons (gs_if (gt_not (gt_truth (ge_view (ge_all rfl (G.bn_all rfl rfl) (ge_view (ge_fz (ge_lcG (own' := [("path", 8)]) (body := fun env acc => appF _ env acc) rfl sc_heap_of.nd (gi_seq (ge_vF rfl (Or.inl rfl) rfl rfl)) (blkOk_by rfl) rfl (by decide) (by decide) (fun _ _ _ => rfl) (fun _ _ _ _ _ => (gg_name sc_heap_of.nd rfl (Or.inl rfl) (Or.inr rfl))) (fun _ _ _ _ _ => gts_nil) (fun _ _ _ _ _ => (gtl_last rfl (ge_lift (ge_and (ge_cmp (room_u hr) (ge_len (G.bn_len rfl rfl) (ge_view (ge_vF rfl (Or.inl rfl) rfl rfl)) rfl) (ge_view (ge_fz (ge_add (ge_vF rfl (Or.inr (Or.inl rfl)) rfl rfl) (ge_vF rfl (Or.inr (Or.inl rfl)) rfl rfl)))) rfl) (ge_and (ge_cmp (room_u hr) (ge_count (room_u hr) (ge_vF rfl (Or.inl rfl) rfl rfl) gc_str rfl rfl rfl rfl) (ge_view (ge_vF rfl (Or.inr (Or.inl rfl)) rfl rfl)) rfl) (ge_one (ge_cmp (room_u hr) (ge_count (room_u hr) (ge_vF rfl (Or.inl rfl) rfl rfl) gc_str rfl rfl rfl rfl) (ge_view (ge_vF rfl (Or.inr (Or.inl rfl)) rfl rfl)) rfl)))))))))) rfl)) fun _ => rfl))
   (gss_one (gs_raise rfl (takes_of rfl rfl rfl rfl) x_OutOfRange.1 (pmk_own PySem.F.excBase_ValueError x_OutOfRange.2.1 x_OutOfRange.1 x_OutOfRange.2.2.1 (raises_own x_OutOfRange.2.2.2.1 x_OutOfRange.2.2.2.2) rfl rfl)))
   gss_nil)
  (gss_cons (gs_setLcG (own' := [("point", 6), ("number", 7), ("path", 8)]) (body := fun env acc => midF _ 1 _ env acc) rfl sc_heap_of.nd rfl rfl (by decide) rfl (gi_enumT rfl G.m_enumerate (ge_vF rfl (Or.inl rfl) rfl rfl) rfl) (blkOk_by rfl) rfl (by decide) (by decide) (fun _ _ _ => rfl) (fun _ _ _ _ _ => (gg_tup rfl (ggs_cons (gg_name sc_heap_of.nd rfl (Or.inl rfl) (Or.inr rfl)) (ggs_cons (gg_name sc_heap_of.nd rfl (Or.inl rfl) (Or.inr rfl)) ggs_nil rfl) rfl) rfl)) (fun _ _ _ _ _ => gts_nil) (fun _ _ _ _ _ => (gtl_mid rfl rfl (.inl ⟨_, _, _, _, rfl⟩) rfl rfl rfl (fun _ _ => rfl) (gi_seq (ge_fz (ge_call c_points_of (hr.mono (by decide)) hgd rfl rfl passL (gar_val (ge_vF rfl (Or.inl rfl) rfl rfl) (gar_val (ge_vF rfl (Or.inl rfl) rfl rfl) gar_nil rfl) rfl) rfl rfl))) (gg_name sc_heap_of.nd rfl (Or.inl rfl) (Or.inr rfl)) gts_nil (gtl_last rfl (ge_lift (ge_vF rfl (Or.inl rfl) rfl rfl))) rfl (by decide) (by decide))))
  (gss_cons (gs_if (gt_cmp (room_u hr) (ge_lenD (own' := [("point", 6)]) (body := fun env acc => dicF _ _ env acc) (G.bn_len rfl rfl) rfl sc_heap_of.nd (gi_seq (ge_fz (ge_vE rfl (Or.inl rfl) rfl rfl))) (blkOk_by rfl) rfl (by decide) (by decide) (fun _ _ _ => rfl) (fun _ _ _ _ _ => (gg_name sc_heap_of.nd rfl (Or.inl rfl) (Or.inr rfl))) (fun _ _ _ _ _ => gts_nil) (fun _ _ _ _ _ => (gtl_dict (room_u hr) rfl (ge_vF rfl (Or.inl rfl) rfl rfl) gc_bool))) (ge_view (ge_len (G.bn_len rfl rfl) (ge_vO rfl (Or.inl rfl) rfl rfl) rfl)) rfl)
   (gss_one (gs_ret (ge_lift gc_none)))
   gss_nil)
  (gss_one (gs_ret (ge_lift (ge_tupOf (G.bn_tuple rfl rfl) (ge_view (ge_fz (ge_lcG (own' := [("path", 8)]) (body := fun env acc => appF _ env acc) rfl sc_heap_of.nd (gi_seq (ge_vF rfl (Or.inl rfl) rfl rfl)) (blkOk_by rfl) rfl (by decide) (by decide) (fun _ _ _ => rfl) (fun _ _ _ _ _ => (gg_name sc_heap_of.nd rfl (Or.inl rfl) (Or.inr rfl))) (fun _ _ _ _ _ => gts_nil) (fun _ _ _ _ _ => (gtl_last rfl (ge_call c_row_of (hr.mono (by decide)) hgd rfl rfl passL (gar_val (ge_vF rfl (Or.inl rfl) rfl rfl) gar_nil rfl) rfl rfl)))))) rfl))))))))))

theorem w__law_times (G : Gb K mg)  (F : FunD K "_law_times" "_law_times" (defArgs (Hd.top 37)) (defBody (Hd.top 37)) (defScope (Hd.top 37)) [] [] f fd) (hm : mg "_law_times" = some (.ref f)) : FnD P w K mg base (L2.CX P w) 1 "_law_times" 3 F__law_times := by
  refine fnD_of (N := ["box", "told", "more", "i", "j", "k", "power", "longer", "at"]) (ps := ["box", "told", "more"]) (pin := [0, 2]) (fb := s__law_times) F sc__law_times rfl hm (F.bindsN fun _ _ _ _ _ _ us hl => match us, hl with | [_, _, _], _ => rfl) (by decide) fun cdv A outer s H E hr hgd => ?_
  exact (gss_cons (gs_for (passes_of rfl) rfl (gi_range2 rfl G.m_range gc_int (ge_fz (ge_add (ge_ixF (ge_vF rfl (Or.inl rfl) rfl rfl) gc_int rfl) gc_int)) rfl rfl) (gg_name sc__law_times.nd rfl (Or.inl rfl) (Or.inr rfl)) (by decide)
   (gss_one (gs_for (passes_of rfl) rfl (gi_range2 rfl G.m_range gc_int (ge_fz (ge_add (ge_ixF (ge_vF rfl (Or.inl rfl) rfl rfl) gc_int rfl) gc_int)) rfl rfl) (gg_name sc__law_times.nd rfl (Or.inl rfl) (Or.inr rfl)) (by decide)
     (gss_one (gs_for (passes_of rfl) rfl (gi_range2 rfl G.m_range gc_int (ge_fz (ge_add (ge_ixF (ge_vF rfl (Or.inl rfl) rfl rfl) gc_int rfl) gc_int)) rfl rfl) (gg_name sc__law_times.nd rfl (Or.inl rfl) (Or.inr rfl)) (by decide)
       (gss_cons (gs_set sc__law_times.nd rfl (Or.inl rfl) (by decide) (ge_lift (ge_sub (ge_fz (ge_add (ge_fz (ge_add (ge_vF rfl (Or.inl rfl) rfl rfl) (ge_vF rfl (Or.inl rfl) rfl rfl))) (ge_vF rfl (Or.inl rfl) rfl rfl))) (ge_vF rfl (Or.inl rfl) rfl rfl))) rfl (Or.inr rfl))
        (gss_cons (gs_set sc__law_times.nd rfl (Or.inl rfl) (by decide) (ge_add (ge_fz (ge_lstOf (G.bn_list rfl rfl) (ge_vO rfl (Or.inl rfl) rfl rfl) rfl)) (ge_fz (ge_mul (ge_fz (ge_lst (ga_consE (ge_lift gc_int) ga_nilE rfl) (by decide))) (ge_vF rfl (Or.inl rfl) rfl rfl)))) rfl (Or.inr rfl))
        (gss_cons (gs_for (passes_of rfl) rfl (gi_range1 rfl G.m_range (ge_len (G.bn_len rfl rfl) (ge_vO rfl (Or.inl rfl) rfl rfl) rfl) rfl) (gg_name sc__law_times.nd rfl (Or.inl rfl) (Or.inr rfl)) (by decide)
         (gss_one (gs_setIx ⟨rfl, (Or.inl rfl), rfl, rfl⟩ (ge_lift (ge_sub (ge_ixO (ge_vO rfl (Or.inl rfl) rfl rfl) (ge_fz (ge_add (ge_vF rfl (Or.inl rfl) rfl rfl) (ge_vF rfl (Or.inl rfl) rfl rfl))) rfl) (ge_ixO (ge_vO rfl (Or.inl rfl) rfl rfl) (ge_vF rfl (Or.inl rfl) rfl rfl) rfl))) (ge_fz (ge_add (ge_vF rfl (Or.inl rfl) rfl rfl) (ge_vF rfl (Or.inl rfl) rfl rfl))) rfl rfl rfl (fun _ => rfl))) rfl)
        (gss_one (gs_set sc__law_times.nd rfl (Or.inl rfl) (by decide) (ge_vE rfl (Or.inl rfl) rfl rfl) rfl (Or.inr rfl)))))) rfl)) rfl)) rfl)
  (gss_one (gs_ret (ge_vM rfl (Or.inl rfl) rfl rfl))))

theorem w_check_heap (G : Gb K mg) (c_check_box : FnD P w K mg base (L2.CX P w) 2 "check_box" 1 F_check_box) (c_is_number : FnD P w K mg base (L2.CX P w) 1 "is_number" 3 F_is_number) (F : FunD K "check_heap" "check_heap" (defArgs (Hd.top 9)) (defBody (Hd.top 9)) (defScope (Hd.top 9)) [] [] f fd) (hm : mg "check_heap" = some (.ref f)) : FnD P w K mg base (L2.CX P w) 3 "check_heap" 2 F_check_heap := by
  refine fnD_of (N := ["box", "heap", "row", "lines", "a", "b", "c", "line", "place", "item"]) (ps := ["box", "heap"]) (pin := [0, 1]) (fb := s_check_heap) F sc_check_heap rfl hm (F.bindsN fun _ _ _ _ _ _ us hl => match us, hl with | [_, _], _ => rfl) (by decide) fun cdv A outer s H E hr hgd => ?_
  obtain ⟨_, x_BadHeap⟩ := G.e_BadHeap
  exact (gss_cons (gs_expr (ge_call c_check_box (hr.mono (by decide)) hgd rfl rfl (passes_call (takes_of rfl rfl rfl rfl) fun _ _ _ _ h => h) (gar_val (ge_vF rfl (Or.inl rfl) rfl rfl) gar_nil rfl) rfl rfl) rfl)
  (gss_cons (gs_asg (ge_vF rfl (Or.inl rfl) rfl rfl) (gg_tup rfl (ggs_cons (gg_name sc_check_heap.nd rfl (Or.inl rfl) (Or.inr rfl)) (ggs_cons (gg_name sc_check_heap.nd rfl (Or.inl rfl) (Or.inr rfl)) (ggs_cons (gg_name sc_check_heap.nd rfl (Or.inr rfl) (Or.inl rfl)) ggs_nil rfl) rfl) rfl) rfl) (by decide) rfl rfl rfl)
  (gss_cons (gs_if (gw_pt (gw_or (gt_not (gt_truth (ge_view (ge_isi (G.bn_isinstance rfl rfl) (G.bn_tuple rfl rfl) (by decide) (ge_vF rfl (Or.inl rfl) rfl rfl) rfl)) fun _ => rfl)) (gw_or1 (gt_cmp (room_u hr) (ge_len (G.bn_len rfl rfl) (ge_view (ge_vF rfl (Or.inl rfl) rfl rfl)) rfl) (ge_view (ge_vF rfl (Or.inl rfl) rfl rfl)) rfl))))
   (gss_one (gs_raise rfl (takes_of rfl rfl rfl rfl) x_BadHeap.1 (pmk_own PySem.F.excBase_ValueError x_BadHeap.2.1 x_BadHeap.1 x_BadHeap.2.2.1 (raises_own x_BadHeap.2.2.2.1 x_BadHeap.2.2.2.2) rfl rfl)))
   gss_nil)
  (gss_cons (gs_for (passes_of rfl) rfl (gi_seq (ge_vF rfl (Or.inl rfl) rfl rfl)) (gg_name sc_check_heap.nd rfl (Or.inl rfl) (Or.inr rfl)) (by decide)
   (gss_one (gs_if (gw_pt (gw_or (gt_not (gt_truth (ge_view (ge_isi (G.bn_isinstance rfl rfl) (G.bn_tuple rfl rfl) (by decide) (ge_vF rfl (Or.inl rfl) rfl rfl) rfl)) fun _ => rfl)) (gw_or (gt_cmp (room_u hr) (ge_len (G.bn_len rfl rfl) (ge_view (ge_vF rfl (Or.inl rfl) rfl rfl)) rfl) (ge_view (ge_vF rfl (Or.inl rfl) rfl rfl)) rfl) (gw_or1 (gt_not (gt_truth (ge_view (ge_all rfl (G.bn_all rfl rfl) (ge_view (ge_fz (ge_lcG (own' := [("item", 9)]) (body := fun env acc => appF _ env acc) rfl sc_check_heap.nd (gi_seq (ge_vF rfl (Or.inl rfl) rfl rfl)) (blkOk_by rfl) rfl (by decide) (by decide) (fun _ _ _ => rfl) (fun _ _ _ _ _ => (gg_name sc_check_heap.nd rfl (Or.inl rfl) (Or.inr rfl))) (fun _ _ _ _ _ => gts_nil) (fun _ _ _ _ _ => (gtl_last rfl (ge_call c_is_number (hr.mono (by decide)) hgd rfl rfl passL (gar_val (ge_vF rfl (Or.inl rfl) rfl rfl) (gar_val gc_int (gar_val (ge_vF rfl (Or.inr (Or.inl rfl)) rfl rfl) gar_nil rfl) rfl) rfl) rfl rfl)))))) rfl)) fun _ => rfl))))))
     (gss_one (gs_raise rfl (takes_of rfl rfl rfl rfl) x_BadHeap.1 (pmk_own PySem.F.excBase_ValueError x_BadHeap.2.1 x_BadHeap.1 x_BadHeap.2.2.1 (raises_own x_BadHeap.2.2.2.1 x_BadHeap.2.2.2.2) rfl rfl)))
     gss_nil)) rfl)
  (gss_cons (gs_set sc_check_heap.nd rfl (Or.inl rfl) (by decide) (ge_add (ge_fz (ge_lstOf (G.bn_list rfl rfl) (ge_view (ge_vF rfl (Or.inl rfl) rfl rfl)) rfl)) (ge_fz (ge_zipT rfl (G.bn_list rfl rfl) (G.bn_zip rfl rfl) (ge_vF rfl (Or.inl rfl) rfl rfl)))) rfl (Or.inr rfl))
  (gss_one (gs_if (gt_truth (ge_view (ge_any rfl (G.bn_any rfl rfl) (ge_view (ge_fz (ge_lcG (own' := [("line", 7)]) (body := fun env acc => appF _ env acc) rfl sc_check_heap.nd (gi_seq (ge_fz (ge_vE rfl (Or.inl rfl) rfl rfl))) (blkOk_by rfl) rfl (by decide) (by decide) (fun _ _ _ => rfl) (fun _ _ _ _ _ => (gg_name sc_check_heap.nd rfl (Or.inr rfl) (Or.inl rfl))) (fun _ _ _ _ _ => gts_nil) (fun _ _ _ _ _ => (gtl_last rfl (ge_lift (ge_any rfl (G.bn_any rfl rfl) (ge_view (ge_fz (ge_lcG (own' := [("place", 8)]) (body := fun env acc => appF _ env acc) rfl sc_check_heap.nd (gi_range1 rfl G.m_range (ge_sub (ge_len (G.bn_len rfl rfl) (ge_view (ge_vF rfl (Or.inr (Or.inl rfl)) rfl rfl)) rfl) gc_int) rfl) (blkOk_by rfl) rfl (by decide) (by decide) (fun _ _ _ => rfl) (fun _ _ _ _ _ => (gg_name sc_check_heap.nd rfl (Or.inl rfl) (Or.inr rfl))) (fun _ _ _ _ _ => gts_nil) (fun _ _ _ _ _ => (gtl_last rfl (ge_lift (ge_cmp (room_u hr) (ge_ixF (ge_vF rfl (Or.inr (Or.inl rfl)) rfl rfl) (ge_vF rfl (Or.inl rfl) rfl rfl) rfl) (ge_view (ge_ixF (ge_vF rfl (Or.inr (Or.inl rfl)) rfl rfl) (ge_fz (ge_add (ge_vF rfl (Or.inl rfl) rfl rfl) gc_int)) rfl)) rfl))))))) rfl))))))) rfl)) fun _ => rfl)
   (gss_one (gs_raise rfl (takes_of rfl rfl rfl rfl) x_BadHeap.1 (pmk_own PySem.F.excBase_ValueError x_BadHeap.2.1 x_BadHeap.1 x_BadHeap.2.2.1 (raises_own x_BadHeap.2.2.2.1 x_BadHeap.2.2.2.2) rfl rfl)))
   gss_nil)))))))

theorem w_other_side (G : Gb K mg) (c_check_heap : FnD P w K mg base (L2.CX P w) 3 "check_heap" 2 F_check_heap) (F : FunD K "other_side" "other_side" (defArgs (Hd.top 17)) (defBody (Hd.top 17)) (defScope (Hd.top 17)) [] [] f fd) (hm : mg "other_side" = some (.ref f)) : FnD P w K mg base (L2.CX P w) 4 "other_side" 2 F_other_side := by
  refine fnD_of (N := ["box", "heap", "row", "number"]) (ps := ["box", "heap"]) (pin := [0, 1]) (fb := s_other_side) F sc_other_side rfl hm (F.bindsN fun _ _ _ _ _ _ us hl => match us, hl with | [_, _], _ => rfl) (by decide) fun cdv A outer s H E hr hgd => ?_
  exact (gss_cons (gs_expr (ge_call c_check_heap (hr.mono (by decide)) hgd rfl rfl (passes_call (takes_of rfl rfl rfl rfl) fun _ _ _ _ h => h) (gar_val (ge_vF rfl (Or.inr (Or.inl rfl)) rfl rfl) (gar_val (ge_vF rfl (Or.inl rfl) rfl rfl) gar_nil rfl) rfl) rfl rfl) rfl)
  (gss_one (gs_ret (ge_lift (ge_tup (ga_consF (ge_vF rfl (Or.inr (Or.inl rfl)) rfl rfl) (ga_consF (ge_tupOf (G.bn_tuple rfl rfl) (ge_view (ge_fz (ge_lcG (own' := [("row", 2)]) (body := fun env acc => appF _ env acc) rfl sc_other_side.nd (gi_seq (ge_fz (ge_rev (ge_view (ge_vF rfl (Or.inl rfl) rfl rfl))))) (blkOk_by rfl) rfl (by decide) (by decide) (fun _ _ _ => rfl) (fun _ _ _ _ _ => (gg_name sc_other_side.nd rfl (Or.inl rfl) (Or.inr rfl))) (fun _ _ _ _ _ => gts_nil) (fun _ _ _ _ _ => (gtl_last rfl (ge_lift (ge_tupOf (G.bn_tuple rfl rfl) (ge_view (ge_fz (ge_lcG (own' := [("number", 3)]) (body := fun env acc => appF _ env acc) rfl sc_other_side.nd (gi_seq (ge_fz (ge_rev (ge_view (ge_vF rfl (Or.inl rfl) rfl rfl))))) (blkOk_by rfl) rfl (by decide) (by decide) (fun _ _ _ => rfl) (fun _ _ _ _ _ => (gg_name sc_other_side.nd rfl (Or.inl rfl) (Or.inr rfl))) (fun _ _ _ _ _ => gts_nil) (fun _ _ _ _ _ => (gtl_last rfl (ge_lift (ge_sub (ge_ixF (ge_vF rfl (Or.inr (Or.inl rfl)) rfl rfl) gc_int rfl) (ge_vF rfl (Or.inl rfl) rfl rfl)))))))) rfl))))))) rfl) ga_nilF rfl) rfl) (by decide))))))

theorem w_rolled (G : Gb K mg) (c_check_heap : FnD P w K mg base (L2.CX P w) 3 "check_heap" 2 F_check_heap) (F : FunD K "rolled" "rolled" (defArgs (Hd.top 18)) (defBody (Hd.top 18)) (defScope (Hd.top 18)) [] [] f fd) (hm : mg "rolled" = some (.ref f)) : FnD P w K mg base (L2.CX P w) 4 "rolled" 2 F_rolled := by
  refine fnD_of (N := ["box", "heap", "told", "j", "a", "b", "c", "k", "row"]) (ps := ["box", "heap"]) (pin := [0, 1]) (fb := s_rolled) F sc_rolled rfl hm (F.bindsN fun _ _ _ _ _ _ us hl => match us, hl with | [_, _], _ => rfl) (by decide) fun cdv A outer s H E hr hgd => ?_
  exact (gss_cons (gs_expr (ge_call c_check_heap (hr.mono (by decide)) hgd rfl rfl (passes_call (takes_of rfl rfl rfl rfl) fun _ _ _ _ h => h) (gar_val (ge_vF rfl (Or.inl rfl) rfl rfl) (gar_val (ge_vF rfl (Or.inr (Or.inl rfl)) rfl rfl) gar_nil rfl) rfl) rfl rfl) rfl)
  (gss_cons (gs_asg (ge_vF rfl (Or.inl rfl) rfl rfl) (gg_tup rfl (ggs_cons (gg_name sc_rolled.nd rfl (Or.inl rfl) (Or.inr rfl)) (ggs_cons (gg_name sc_rolled.nd rfl (Or.inl rfl) (Or.inr rfl)) (ggs_cons (gg_name sc_rolled.nd rfl (Or.inl rfl) (Or.inr rfl)) ggs_nil rfl) rfl) rfl) rfl) (by decide) rfl rfl rfl)
  (gss_cons (gs_set sc_rolled.nd rfl (Or.inl rfl) (by decide) (ge_lst ga_nilE (by decide)) rfl (Or.inr rfl))
  (gss_cons (gs_for (passes_of rfl) rfl (gi_range1 rfl G.m_range (ge_vF rfl (Or.inl rfl) rfl rfl) rfl) (gg_name sc_rolled.nd rfl (Or.inr rfl) (Or.inl rfl)) (by decide)
   (gss_one (gs_expr (ge_append ⟨rfl, (Or.inl rfl), rfl, rfl⟩ (ge_lift (ge_tupOf (G.bn_tuple rfl rfl) (ge_view (ge_fz (ge_lcG (own' := [("k", 7)]) (body := fun env acc => appF _ env acc) rfl sc_rolled.nd (gi_range1 rfl G.m_range (ge_vF rfl (Or.inl rfl) rfl rfl) rfl) (blkOk_by rfl) rfl (by decide) (by decide) (fun _ _ _ => rfl) (fun _ _ _ _ _ => (gg_name sc_rolled.nd rfl (Or.inr rfl) (Or.inl rfl))) (fun _ _ _ _ _ => gts_nil) (fun _ _ _ _ _ => (gtl_last rfl (ge_lift (ge_len (G.bn_len rfl rfl) (ge_view (ge_fz (ge_lcG (own' := [("row", 8)]) (body := fun env acc => appF _ env acc) rfl sc_rolled.nd (gi_seq (ge_vF rfl (Or.inr (Or.inl rfl)) rfl rfl)) (blkOk_by rfl) rfl (by decide) (by decide) (fun _ _ _ => rfl) (fun _ _ _ _ _ => (gg_name sc_rolled.nd rfl (Or.inl rfl) (Or.inr rfl))) (fun _ _ _ _ _ => (gts_one (gt_cmp (room_u hr) (ge_ixF (ge_vF rfl (Or.inl rfl) rfl rfl) (ge_vF rfl (Or.inr (Or.inl rfl)) rfl rfl) rfl) (ge_view (ge_vF rfl (Or.inr (Or.inl rfl)) rfl rfl)) rfl))) (fun _ _ _ _ _ => (gtl_last rfl (ge_lift (ge_vF rfl (Or.inl rfl) rfl rfl))))))) rfl))))))) rfl)) rfl rfl rfl rfl) rfl)) rfl)
  (gss_one (gs_ret (ge_lift (ge_tup (ga_consF (ge_tup (ga_consF (ge_vF rfl (Or.inl rfl) rfl rfl) (ga_consF (ge_vF rfl (Or.inl rfl) rfl rfl) (ga_consF (ge_vF rfl (Or.inl rfl) rfl rfl) ga_nilF rfl) rfl) rfl) (by decide)) (ga_consF (ge_tupOf (G.bn_tuple rfl rfl) (ge_vO rfl (Or.inl rfl) rfl rfl) rfl) ga_nilF rfl) rfl) (by decide)))))))))

theorem w__law_alike (G : Gb K mg) (c__law_number : FnD P w K mg base (L2.CX P w) 1 "_law_number" 1 F__law_number) (F : FunD K "_law_alike" "_law_alike" (defArgs (Hd.top 38)) (defBody (Hd.top 38)) (defScope (Hd.top 38)) [] [] f fd) (hm : mg "_law_alike" = some (.ref f)) : FnD P w K mg base (L2.CX P w) 2 "_law_alike" 2 F__law_alike := by
  refine fnD_of (N := ["box", "way", "i", "a", "b", "c", "top", "low", "j"]) (ps := ["box", "way"]) (pin := [0, 1]) (fb := s__law_alike) F sc__law_alike rfl hm (F.bindsN fun _ _ _ _ _ _ us hl => match us, hl with | [_, _], _ => rfl) (by decide) fun cdv A outer s H E hr hgd => ?_
  exact (gss_cons (gs_asg (ge_vF rfl (Or.inl rfl) rfl rfl) (gg_tup rfl (ggs_cons (gg_name sc__law_alike.nd rfl (Or.inl rfl) (Or.inr rfl)) (ggs_cons (gg_name sc__law_alike.nd rfl (Or.inl rfl) (Or.inr rfl)) (ggs_cons (gg_name sc__law_alike.nd rfl (Or.inl rfl) (Or.inr rfl)) ggs_nil rfl) rfl) rfl) rfl) (by decide) rfl rfl rfl)
  (gss_cons (gs_if (gt_cmp (room_u hr) (ge_vF rfl (Or.inl rfl) rfl rfl) (ge_view gc_str) rfl)
   (gss_one (gs_ret (ge_mul (ge_fz (ge_call c__law_number (hr.mono (by decide)) hgd rfl rfl (passes_call (takes_of rfl rfl rfl rfl) fun _ _ _ _ h => h) (gar_val (ge_tup (ga_consF (ge_div (ge_vF rfl (Or.inl rfl) rfl rfl) gc_int) (ga_consF (ge_div (ge_vF rfl (Or.inl rfl) rfl rfl) gc_int) (ga_consF (ge_div (ge_vF rfl (Or.inl rfl) rfl rfl) gc_int) ga_nilF rfl) rfl) rfl) (by decide)) gar_nil rfl) rfl rfl)) (ge_fz (ge_call c__law_number (hr.mono (by decide)) hgd rfl rfl (passes_call (takes_of rfl rfl rfl rfl) fun _ _ _ _ h => h) (gar_val (ge_tup (ga_consF (ge_div (ge_vF rfl (Or.inl rfl) rfl rfl) gc_int) (ga_consF (ge_div (ge_vF rfl (Or.inl rfl) rfl rfl) gc_int) (ga_consF (ge_div (ge_vF rfl (Or.inl rfl) rfl rfl) gc_int) ga_nilF rfl) rfl) rfl) (by decide)) gar_nil rfl) rfl rfl)))))
   gss_nil)
  (gss_cons (gs_asg (ge_tup (ga_consF gc_int (ga_consF gc_int ga_nilF rfl) rfl) (by decide)) (gg_tup rfl (ggs_cons (gg_name sc__law_alike.nd rfl (Or.inl rfl) (Or.inr rfl)) (ggs_cons (gg_name sc__law_alike.nd rfl (Or.inl rfl) (Or.inr rfl)) ggs_nil rfl) rfl) rfl) (by decide) rfl rfl rfl)
  (gss_cons (gs_for (passes_of rfl) rfl (gi_range2 rfl G.m_range gc_int (ge_fz (ge_add (ge_vF rfl (Or.inl rfl) rfl rfl) gc_int)) rfl rfl) (gg_name sc__law_alike.nd rfl (Or.inl rfl) (Or.inr rfl)) (by decide)
   (gss_cons (gs_par rfl sc__law_alike.nd rfl rfl (by decide) rfl rfl (by decide) (by decide) (ga_consE (ge_mul (ge_vF rfl (Or.inl rfl) rfl rfl) (ge_sub (ge_fz (ge_add (ge_fz (ge_mul gc_int (ge_vF rfl (Or.inl rfl) rfl rfl))) (ge_vF rfl (Or.inl rfl) rfl rfl))) gc_int)) (ga_consE (ge_mul (ge_vF rfl (Or.inl rfl) rfl rfl) (ge_sub (ge_fz (ge_mul gc_int (ge_vF rfl (Or.inl rfl) rfl rfl))) gc_int)) ga_nilE rfl) rfl) rfl rfl)
    (gss_one (gs_for (passes_of rfl) rfl (gi_range2 rfl G.m_range (ge_fz (ge_add (ge_vF rfl (Or.inl rfl) rfl rfl) gc_int)) (ge_fz (ge_add (ge_vF rfl (Or.inl rfl) rfl rfl) gc_int)) rfl rfl) (gg_name sc__law_alike.nd rfl (Or.inl rfl) (Or.inr rfl)) (by decide)
     (gss_one (gs_par rfl sc__law_alike.nd rfl rfl (by decide) rfl rfl (by decide) (by decide) (ga_consE (ge_mul (ge_vF rfl (Or.inl rfl) rfl rfl) (ge_sub (ge_fz (ge_add (ge_fz (ge_add (ge_vF rfl (Or.inl rfl) rfl rfl) (ge_vF rfl (Or.inl rfl) rfl rfl))) (ge_vF rfl (Or.inl rfl) rfl rfl))) gc_int)) (ga_consE (ge_mul (ge_vF rfl (Or.inl rfl) rfl rfl) (ge_sub (ge_fz (ge_add (ge_vF rfl (Or.inl rfl) rfl rfl) (ge_vF rfl (Or.inl rfl) rfl rfl))) gc_int)) ga_nilE rfl) rfl) rfl rfl)) rfl))) rfl)
  (gss_one (gs_ret (ge_lift (ge_div (ge_vF rfl (Or.inl rfl) rfl rfl) (ge_vF rfl (Or.inl rfl) rfl rfl)))))))))

theorem w_mirror (G : Gb K mg) (c_check_heap : FnD P w K mg base (L2.CX P w) 3 "check_heap" 2 F_check_heap) (F : FunD K "mirror" "mirror" (defArgs (Hd.top 16)) (defBody (Hd.top 16)) (defScope (Hd.top 16)) [] [] f fd) (hm : mg "mirror" = some (.ref f)) : FnD P w K mg base (L2.CX P w) 4 "mirror" 2 F_mirror := by
  refine fnD_of (N := ["box", "heap", "a", "b", "c", "j", "row"]) (ps := ["box", "heap"]) (pin := [0, 1]) (fb := s_mirror) F sc_mirror rfl hm (F.bindsN fun _ _ _ _ _ _ us hl => match us, hl with | [_, _], _ => rfl) (by decide) fun cdv A outer s H E hr hgd => ?_
  exact (gss_cons (gs_expr (ge_call c_check_heap (hr.mono (by decide)) hgd rfl rfl (passes_call (takes_of rfl rfl rfl rfl) fun _ _ _ _ h => h) (gar_val (ge_vF rfl (Or.inl rfl) rfl rfl) (gar_val (ge_vF rfl (Or.inr (Or.inl rfl)) rfl rfl) gar_nil rfl) rfl) rfl rfl) rfl)
  (gss_cons (gs_asg (ge_vF rfl (Or.inl rfl) rfl rfl) (gg_tup rfl (ggs_cons (gg_name sc_mirror.nd rfl (Or.inl rfl) (Or.inr rfl)) (ggs_cons (gg_name sc_mirror.nd rfl (Or.inl rfl) (Or.inr rfl)) (ggs_cons (gg_name sc_mirror.nd rfl (Or.inl rfl) (Or.inr rfl)) ggs_nil rfl) rfl) rfl) rfl) (by decide) rfl rfl rfl)
  (gss_one (gs_ret (ge_lift (ge_tup (ga_consF (ge_tup (ga_consF (ge_vF rfl (Or.inl rfl) rfl rfl) (ga_consF (ge_vF rfl (Or.inl rfl) rfl rfl) (ga_consF (ge_vF rfl (Or.inl rfl) rfl rfl) ga_nilF rfl) rfl) rfl) (by decide)) (ga_consF (ge_tupOf (G.bn_tuple rfl rfl) (ge_view (ge_fz (ge_lcG (own' := [("j", 5)]) (body := fun env acc => appF _ env acc) rfl sc_mirror.nd (gi_range1 rfl G.m_range (ge_vF rfl (Or.inl rfl) rfl rfl) rfl) (blkOk_by rfl) rfl (by decide) (by decide) (fun _ _ _ => rfl) (fun _ _ _ _ _ => (gg_name sc_mirror.nd rfl (Or.inr rfl) (Or.inl rfl))) (fun _ _ _ _ _ => gts_nil) (fun _ _ _ _ _ => (gtl_last rfl (ge_lift (ge_tupOf (G.bn_tuple rfl rfl) (ge_view (ge_fz (ge_lcG (own' := [("row", 6)]) (body := fun env acc => appF _ env acc) rfl sc_mirror.nd (gi_seq (ge_vF rfl (Or.inr (Or.inl rfl)) rfl rfl)) (blkOk_by rfl) rfl (by decide) (by decide) (fun _ _ _ => rfl) (fun _ _ _ _ _ => (gg_name sc_mirror.nd rfl (Or.inl rfl) (Or.inr rfl))) (fun _ _ _ _ _ => gts_nil) (fun _ _ _ _ _ => (gtl_last rfl (ge_lift (ge_ixF (ge_vF rfl (Or.inl rfl) rfl rfl) (ge_vF rfl (Or.inr (Or.inl rfl)) rfl rfl) rfl))))))) rfl))))))) rfl) ga_nilF rfl) rfl) (by decide)))))))

theorem w__law_rolled (G : Gb K mg)  (F : FunD K "_law_rolled" "_law_rolled" (defArgs (Hd.top 33)) (defBody (Hd.top 33)) (defScope (Hd.top 33)) [] [] f fd) (hm : mg "_law_rolled" = some (.ref f)) : FnD P w K mg base (L2.CX P w) 1 "_law_rolled" 2 F__law_rolled := by
  refine fnD_of (N := ["box", "heap", "found", "j", "k", "row"]) (ps := ["box", "heap"]) (pin := [0, 1]) (fb := s__law_rolled) F sc__law_rolled rfl hm (F.bindsN fun _ _ _ _ _ _ us hl => match us, hl with | [_, _], _ => rfl) (by decide) fun cdv A outer s H E hr hgd => ?_
  exact (gss_cons (gs_set sc__law_rolled.nd rfl (Or.inl rfl) (by decide) (ge_lst ga_nilE (by decide)) rfl (Or.inr rfl))
  (gss_cons (gs_for (passes_of rfl) rfl (gi_range1 rfl G.m_range (ge_ixF (ge_vF rfl (Or.inl rfl) rfl rfl) gc_int rfl) rfl) (gg_name sc__law_rolled.nd rfl (Or.inr rfl) (Or.inl rfl)) (by decide)
   (gss_one (gs_expr (ge_append ⟨rfl, (Or.inl rfl), rfl, rfl⟩ (ge_lift (ge_tupOf (G.bn_tuple rfl rfl) (ge_view (ge_fz (ge_lcG (own' := [("k", 4)]) (body := fun env acc => appF _ env acc) rfl sc__law_rolled.nd (gi_range1 rfl G.m_range (ge_ixF (ge_vF rfl (Or.inl rfl) rfl rfl) gc_int rfl) rfl) (blkOk_by rfl) rfl (by decide) (by decide) (fun _ _ _ => rfl) (fun _ _ _ _ _ => (gg_name sc__law_rolled.nd rfl (Or.inr rfl) (Or.inl rfl))) (fun _ _ _ _ _ => gts_nil) (fun _ _ _ _ _ => (gtl_last rfl (ge_lift (ge_len (G.bn_len rfl rfl) (ge_view (ge_fz (ge_lcG (own' := [("row", 5)]) (body := fun env acc => appF _ env acc) rfl sc__law_rolled.nd (gi_seq (ge_vF rfl (Or.inr (Or.inl rfl)) rfl rfl)) (blkOk_by rfl) rfl (by decide) (by decide) (fun _ _ _ => rfl) (fun _ _ _ _ _ => (gg_name sc__law_rolled.nd rfl (Or.inl rfl) (Or.inr rfl))) (fun _ _ _ _ _ => (gts_one (gt_cmp (room_u hr) (ge_ixF (ge_vF rfl (Or.inl rfl) rfl rfl) (ge_vF rfl (Or.inr (Or.inl rfl)) rfl rfl) rfl) (ge_view (ge_vF rfl (Or.inr (Or.inl rfl)) rfl rfl)) rfl))) (fun _ _ _ _ _ => (gtl_last rfl (ge_lift (ge_vF rfl (Or.inl rfl) rfl rfl))))))) rfl))))))) rfl)) rfl rfl rfl rfl) rfl)) rfl)
  (gss_one (gs_ret (ge_lift (ge_tupOf (G.bn_tuple rfl rfl) (ge_vO rfl (Or.inl rfl) rfl rfl) rfl))))))

theorem w_path_of (G : Gb K mg)  (F : FunD K "path_of" "path_of" (defArgs (Hd.top 19)) (defBody (Hd.top 19)) (defScope (Hd.top 19)) [] [] f fd) (hm : mg "path_of" = some (.ref f)) : FnD P w K mg base (L2.CX P w) 1 "path_of" 2 F_path_of := by
  refine fnD_of (N := ["row", "high", "number", "told", "height"]) (ps := ["row", "high"]) (pin := [0, 1]) (fb := s_path_of) F sc_path_of rfl hm (F.bindsN fun _ _ _ _ _ _ us hl => match us, hl with | [_, _], _ => rfl) (by decide) fun cdv A outer s H E hr hgd => ?_
  exact (gss_cons (gs_par rfl sc_path_of.nd rfl rfl (by decide) rfl rfl (by decide) (by decide) (ga_consE (ge_lst ga_nilE (by decide)) (ga_consE (ge_lift gc_int) ga_nilE rfl) rfl) rfl rfl)
  (gss_cons (gs_for (passes_of rfl) rfl (gi_seq (ge_fz (ge_rev (ge_view (ge_vF rfl (Or.inl rfl) rfl rfl))))) (gg_name sc_path_of.nd rfl (Or.inl rfl) (Or.inr rfl)) (by decide)
   (gss_cons (gs_set sc_path_of.nd rfl (Or.inl rfl) (by decide) (ge_add (ge_fz (ge_add (ge_fz (ge_vE rfl (Or.inl rfl) rfl rfl)) (ge_fz (ge_mul (ge_fz (ge_lst (ga_consE (ge_lift gc_str) ga_nilE rfl) (by decide))) (ge_sub (ge_vF rfl (Or.inl rfl) rfl rfl) (ge_vF rfl (Or.inl rfl) rfl rfl)))))) (ge_fz (ge_lst (ga_consE (ge_lift gc_str) ga_nilE rfl) (by decide)))) rfl (Or.inr rfl))
    (gss_one (gs_set sc_path_of.nd rfl (Or.inl rfl) (by decide) (ge_lift (ge_vF rfl (Or.inl rfl) rfl rfl)) rfl (Or.inr rfl)))) rfl)
  (gss_one (gs_ret (ge_lift (ge_tupOf (G.bn_tuple rfl rfl) (ge_view (ge_fz (ge_add (ge_fz (ge_vE rfl (Or.inl rfl) rfl rfl)) (ge_fz (ge_mul (ge_fz (ge_lst (ga_consE (ge_lift gc_str) ga_nilE rfl) (by decide))) (ge_sub (ge_vF rfl (Or.inl rfl) rfl rfl) (ge_vF rfl (Or.inl rfl) rfl rfl))))))) rfl))))))

theorem w_paths_of (G : Gb K mg) (c_check_heap : FnD P w K mg base (L2.CX P w) 3 "check_heap" 2 F_check_heap) (c_path_of : FnD P w K mg base (L2.CX P w) 1 "path_of" 2 F_path_of) (F : FunD K "paths_of" "paths_of" (defArgs (Hd.top 20)) (defBody (Hd.top 20)) (defScope (Hd.top 20)) [] [] f fd) (hm : mg "paths_of" = some (.ref f)) : FnD P w K mg base (L2.CX P w) 4 "paths_of" 2 F_paths_of := by
  refine fnD_of (N := ["box", "heap", "row"]) (ps := ["box", "heap"]) (pin := [0, 1]) (fb := s_paths_of) F sc_paths_of rfl hm (F.bindsN fun _ _ _ _ _ _ us hl => match us, hl with | [_, _], _ => rfl) (by decide) fun cdv A outer s H E hr hgd => ?_
  exact (gss_cons (gs_expr (ge_call c_check_heap (hr.mono (by decide)) hgd rfl rfl (passes_call (takes_of rfl rfl rfl rfl) fun _ _ _ _ h => h) (gar_val (ge_vF rfl (Or.inr (Or.inl rfl)) rfl rfl) (gar_val (ge_vF rfl (Or.inl rfl) rfl rfl) gar_nil rfl) rfl) rfl rfl) rfl)
  (gss_one (gs_ret (ge_lift (ge_tupOf (G.bn_tuple rfl rfl) (ge_view (ge_fz (ge_lcG (own' := [("row", 2)]) (body := fun env acc => appF _ env acc) rfl sc_paths_of.nd (gi_seq (ge_vF rfl (Or.inl rfl) rfl rfl)) (blkOk_by rfl) rfl (by decide) (by decide) (fun _ _ _ => rfl) (fun _ _ _ _ _ => (gg_name sc_paths_of.nd rfl (Or.inl rfl) (Or.inr rfl))) (fun _ _ _ _ _ => gts_nil) (fun _ _ _ _ _ => (gtl_last rfl (ge_call c_path_of (hr.mono (by decide)) hgd rfl rfl passL (gar_val (ge_vF rfl (Or.inl rfl) rfl rfl) (gar_val (ge_ixF (ge_vF rfl (Or.inr (Or.inl rfl)) rfl rfl) gc_int rfl) gar_nil rfl) rfl) rfl rfl)))))) rfl)))))

theorem w_law (G : Gb K mg) (c__law_alike : FnD P w K mg base (L2.CX P w) 2 "_law_alike" 2 F__law_alike) (c__law_draw : FnD P w K mg base (L2.CX P w) 1 "_law_draw" 2 F__law_draw) (c__law_drawn : FnD P w K mg base (L2.CX P w) 2 "_law_drawn" 2 F__law_drawn) (c__law_meet : FnD P w K mg base (L2.CX P w) 1 "_law_meet" 1 F__law_meet) (c__law_mirror : FnD P w K mg base (L2.CX P w) 1 "_law_mirror" 1 F__law_mirror) (c__law_number : FnD P w K mg base (L2.CX P w) 1 "_law_number" 1 F__law_number) (c__law_other : FnD P w K mg base (L2.CX P w) 1 "_law_other" 2 F__law_other) (c__law_paths : FnD P w K mg base (L2.CX P w) 1 "_law_paths" 2 F__law_paths) (c__law_rolled : FnD P w K mg base (L2.CX P w) 1 "_law_rolled" 2 F__law_rolled) (c__law_small : FnD P w K mg base (L2.CX P w) 4 "_law_small" 1 F__law_small) (c__law_stream : FnD P w K mg base (L2.CX P w) 2 "_law_stream" 2 F__law_stream) (c__law_times : FnD P w K mg base (L2.CX P w) 1 "_law_times" 3 F__law_times) (c_check_heap : FnD P w K mg base (L2.CX P w) 3 "check_heap" 2 F_check_heap) (c_count_alike : FnD P w K mg base (L2.CX P w) 3 "count_alike" 2 F_count_alike) (c_count_heaps : FnD P w K mg base (L2.CX P w) 3 "count_heaps" 1 F_count_heaps) (c_heap_of : FnD P w K mg base (L2.CX P w) 3 "heap_of" 2 F_heap_of) (c_mirror : FnD P w K mg base (L2.CX P w) 4 "mirror" 2 F_mirror) (c_other_side : FnD P w K mg base (L2.CX P w) 4 "other_side" 2 F_other_side) (c_paths_of : FnD P w K mg base (L2.CX P w) 4 "paths_of" 2 F_paths_of) (c_rolled : FnD P w K mg base (L2.CX P w) 4 "rolled" 2 F_rolled) (c_sizes : FnD P w K mg base (L2.CX P w) 3 "sizes" 1 F_sizes) (F : FunD K "law" "law" (defArgs (Hd.top 40)) (defBody (Hd.top 40)) (defScope (Hd.top 40)) [] [] f fd)
    (law : ∀ ns : List Int, ns.length ≤ 63 → ∃ ev, s_law (some (.sc ns) :: List.replicate 16 none) = .ok (.rt (.fz (.bool true)), ev)) : FnOkG P w K mg base CX0 200 f fd ["script"] (spLaw K 63) := by
  refine law_of (N := ["script", "stream", "box", "due", "heap", "kept", "paths", "again", "told", "a", "b", "c", "drawn", "i", "path", "k", "side"]) (pin := [0]) (fb := s_law) F sc_law (by decide) (fun cdv A outer s H hr hgd => ?_) law
  exact (gss_cons (gs_set sc_law.nd rfl (Or.inr rfl) (by decide) (ge_call c__law_stream (hr.mono (by decide)) hgd rfl rfl passL (gar_slot ⟨rfl, (Or.inl rfl), rfl, rfl⟩ (gar_val gc_int gar_nil rfl)) rfl rfl) rfl (Or.inl rfl))
  (gss_cons (gs_set sc_law.nd rfl (Or.inl rfl) (by decide) (ge_lift (ge_tupOf (G.bn_tuple rfl rfl) (ge_view (ge_fz (ge_lcG (own' := [("k", 15)]) (body := fun env acc => appF _ env acc) rfl sc_law.nd (gi_range1 rfl G.m_range gc_int rfl) (blkOk_by rfl) rfl (by decide) (by decide) (fun _ _ _ => rfl) (fun _ _ _ _ _ => (gg_name sc_law.nd rfl (Or.inl rfl) (Or.inr rfl))) (fun _ _ _ _ _ => gts_nil) (fun _ _ _ _ _ => (gtl_last rfl (ge_add gc_int (ge_fz (ge_call c__law_draw (hr.mono (by decide)) hgd rfl rfl passL (gar_slot ⟨rfl, (Or.inr (Or.inl rfl)), rfl, rfl⟩ (gar_val gc_int gar_nil rfl)) rfl rfl)))))))) rfl)) rfl (Or.inr rfl))
  (gss_cons (gs_set sc_law.nd rfl (Or.inl rfl) (by decide) (ge_call c__law_number (hr.mono (by decide)) hgd rfl rfl passL (gar_val (ge_vF rfl (Or.inl rfl) rfl rfl) gar_nil rfl) rfl rfl) rfl (Or.inr rfl))
  (gss_cons (gs_if (gt_cmp (room_u hr) (ge_repr (room_u hr) hgd (G.bn_repr rfl rfl) (ge_view (ge_fz (ge_call c_count_heaps (hr.mono (by decide)) hgd rfl rfl passL (gar_val (ge_vF rfl (Or.inl rfl) rfl rfl) gar_nil rfl) rfl rfl))) rfl) (ge_view (ge_repr (room_u hr) hgd (G.bn_repr rfl rfl) (ge_view (ge_vF rfl (Or.inl rfl) rfl rfl)) rfl)) rfl)
   (gss_one (gs_ret (ge_lift gc_bool)))
   gss_nil)
  (gss_cons (gs_if (gt_cmp (room_u hr) (ge_fz (ge_mul (ge_fz (ge_mul (ge_ixF (ge_vF rfl (Or.inl rfl) rfl rfl) gc_int rfl) (ge_ixF (ge_vF rfl (Or.inl rfl) rfl rfl) gc_int rfl))) (ge_ixF (ge_vF rfl (Or.inl rfl) rfl rfl) gc_int rfl))) (ge_view gc_int) rfl)
   (gss_cons (gs_set sc_law.nd rfl (Or.inl rfl) (by decide) (ge_call c_sizes (hr.mono (by decide)) hgd rfl rfl passL (gar_val (ge_vF rfl (Or.inl rfl) rfl rfl) gar_nil rfl) rfl rfl) rfl (Or.inr rfl))
    (gss_cons (gs_if (gw_pt (gw_or (gt_not (gt_truth (ge_view (ge_isi (G.bn_isinstance rfl rfl) (G.bn_tuple rfl rfl) (by decide) (ge_vF rfl (Or.inl rfl) rfl rfl) rfl)) fun _ => rfl)) (gw_or (gt_cmp (room_u hr) (ge_len (G.bn_len rfl rfl) (ge_view (ge_vF rfl (Or.inl rfl) rfl rfl)) rfl) (ge_view (ge_fz (ge_add (ge_fz (ge_mul (ge_fz (ge_mul (ge_ixF (ge_vF rfl (Or.inl rfl) rfl rfl) gc_int rfl) (ge_ixF (ge_vF rfl (Or.inl rfl) rfl rfl) gc_int rfl))) (ge_ixF (ge_vF rfl (Or.inl rfl) rfl rfl) gc_int rfl))) gc_int))) rfl) (gw_or1 (gt_cmp (room_u hr) (ge_sumT rfl (G.bn_sum rfl rfl) (ge_view (ge_vF rfl (Or.inl rfl) rfl rfl)) rfl) (ge_view (ge_vF rfl (Or.inl rfl) rfl rfl)) rfl)))))
     (gss_one (gs_ret (ge_lift gc_bool)))
     gss_nil)
    (gss_one (gs_if (gt_cmp (room_u hr) (ge_fz (ge_call c__law_times (hr.mono (by decide)) hgd rfl rfl passL (gar_val (ge_vF rfl (Or.inl rfl) rfl rfl) (gar_val (ge_fz (ge_lstOf (G.bn_list rfl rfl) (ge_view (ge_vF rfl (Or.inl rfl) rfl rfl)) rfl)) (gar_val gc_int gar_nil rfl) rfl) rfl) rfl rfl)) (ge_view (ge_fz (ge_sliceF (ge_fz (ge_call c__law_times (hr.mono (by decide)) hgd rfl rfl passL (gar_val (ge_vF rfl (Or.inl rfl) rfl rfl) (gar_val (ge_fz (ge_lst (ga_consE (ge_lift gc_int) ga_nilE rfl) (by decide))) (gar_val gc_int gar_nil rfl) rfl) rfl) rfl rfl)) gpq_none (gpq_some (ge_len (G.bn_len rfl rfl) (ge_view (ge_fz (ge_call c__law_times (hr.mono (by decide)) hgd rfl rfl passL (gar_val (ge_vF rfl (Or.inl rfl) rfl rfl) (gar_val (ge_fz (ge_lstOf (G.bn_list rfl rfl) (ge_view (ge_vF rfl (Or.inl rfl) rfl rfl)) rfl)) (gar_val gc_int gar_nil rfl) rfl) rfl) rfl rfl))) rfl))))) rfl)
     (gss_one (gs_ret (ge_lift gc_bool)))
     gss_nil))))
   gss_nil)
  (gss_cons (gs_if (gw_pt (gw_and (gt_cmp (room_u hr) (ge_ixF (ge_vF rfl (Or.inl rfl) rfl rfl) gc_int rfl) (ge_view (ge_ixF (ge_vF rfl (Or.inl rfl) rfl rfl) gc_int rfl)) rfl) (gw_and1 (gt_cmp (room_u hr) (ge_repr (room_u hr) hgd (G.bn_repr rfl rfl) (ge_view (ge_fz (ge_call c_count_alike (hr.mono (by decide)) hgd rfl rfl passL (gar_val (ge_vF rfl (Or.inl rfl) rfl rfl) (gar_val gc_str gar_nil rfl) rfl) rfl rfl))) rfl) (ge_view (ge_repr (room_u hr) hgd (G.bn_repr rfl rfl) (ge_view (ge_fz (ge_call c__law_alike (hr.mono (by decide)) hgd rfl rfl passL (gar_val (ge_vF rfl (Or.inl rfl) rfl rfl) (gar_val gc_str gar_nil rfl) rfl) rfl rfl))) rfl)) rfl))))
   (gss_one (gs_ret (ge_lift gc_bool)))
   gss_nil)
  (gss_cons (gs_if (gw_pt (gw_and (gt_truth (ge_view (ge_all rfl (G.bn_all rfl rfl) (ge_view (ge_fz (ge_lcG (own' := [("side", 16)]) (body := fun env acc => appF _ env acc) rfl sc_law.nd (gi_seq (ge_vF rfl (Or.inl rfl) rfl rfl)) (blkOk_by rfl) rfl (by decide) (by decide) (fun _ _ _ => rfl) (fun _ _ _ _ _ => (gg_name sc_law.nd rfl (Or.inl rfl) (Or.inr rfl))) (fun _ _ _ _ _ => gts_nil) (fun _ _ _ _ _ => (gtl_last rfl (ge_lift (ge_cmp (room_u hr) (ge_mod (ge_vF rfl (Or.inl rfl) rfl rfl) gc_int) (ge_view gc_int) rfl))))))) rfl)) fun _ => rfl) (gw_and1 (gt_cmp (room_u hr) (ge_repr (room_u hr) hgd (G.bn_repr rfl rfl) (ge_view (ge_fz (ge_call c_count_alike (hr.mono (by decide)) hgd rfl rfl passL (gar_val (ge_vF rfl (Or.inl rfl) rfl rfl) (gar_val gc_str gar_nil rfl) rfl) rfl rfl))) rfl) (ge_view (ge_repr (room_u hr) hgd (G.bn_repr rfl rfl) (ge_view (ge_fz (ge_call c__law_alike (hr.mono (by decide)) hgd rfl rfl passL (gar_val (ge_vF rfl (Or.inl rfl) rfl rfl) (gar_val gc_str gar_nil rfl) rfl) rfl rfl))) rfl)) rfl))))
   (gss_one (gs_ret (ge_lift gc_bool)))
   gss_nil)
  (gss_cons (gs_if (gt_not (gt_truth (ge_view (ge_fz (ge_call c__law_small (hr.mono (by decide)) hgd rfl rfl passL (gar_val (ge_ixF (ge_fz (ge_lst (ga_consE (ge_lift (ge_tup (ga_consF gc_int (ga_consF gc_int (ga_consF gc_int ga_nilF rfl) rfl) rfl) (by decide))) (ga_consE (ge_lift (ge_tup (ga_consF gc_int (ga_consF gc_int (ga_consF gc_int ga_nilF rfl) rfl) rfl) (by decide))) (ga_consE (ge_lift (ge_tup (ga_consF gc_int (ga_consF gc_int (ga_consF gc_int ga_nilF rfl) rfl) rfl) (by decide))) (ga_consE (ge_lift (ge_tup (ga_consF gc_int (ga_consF gc_int (ga_consF gc_int ga_nilF rfl) rfl) rfl) (by decide))) (ga_consE (ge_lift (ge_tup (ga_consF gc_int (ga_consF gc_int (ga_consF gc_int ga_nilF rfl) rfl) rfl) (by decide))) (ga_consE (ge_lift (ge_tup (ga_consF gc_int (ga_consF gc_int (ga_consF gc_int ga_nilF rfl) rfl) rfl) (by decide))) ga_nilE rfl) rfl) rfl) rfl) rfl) rfl) (by decide))) (ge_fz (ge_call c__law_draw (hr.mono (by decide)) hgd rfl rfl passL (gar_slot ⟨rfl, (Or.inr (Or.inl rfl)), rfl, rfl⟩ (gar_val gc_int gar_nil rfl)) rfl rfl)) rfl) gar_nil rfl) rfl rfl))) fun _ => rfl))
   (gss_one (gs_ret (ge_lift gc_bool)))
   gss_nil)
  (gss_cons (gs_set sc_law.nd rfl (Or.inl rfl) (by decide) (ge_call c__law_drawn (hr.mono (by decide)) hgd rfl rfl passL (gar_slot ⟨rfl, (Or.inr (Or.inl rfl)), rfl, rfl⟩ (gar_val (ge_vF rfl (Or.inl rfl) rfl rfl) gar_nil rfl)) rfl rfl) rfl (Or.inr rfl))
  (gss_cons (gs_asg (ge_vF rfl (Or.inl rfl) rfl rfl) (gg_tup rfl (ggs_cons (gg_name sc_law.nd rfl (Or.inl rfl) (Or.inr rfl)) (ggs_cons (gg_name sc_law.nd rfl (Or.inl rfl) (Or.inr rfl)) (ggs_cons (gg_name sc_law.nd rfl (Or.inl rfl) (Or.inr rfl)) ggs_nil rfl) rfl) rfl) rfl) (by decide) rfl rfl rfl)
  (gss_cons (gs_set sc_law.nd rfl (Or.inl rfl) (by decide) (ge_lift (ge_repr (room_u hr) hgd (G.bn_repr rfl rfl) (ge_view (ge_vF rfl (Or.inl rfl) rfl rfl)) rfl)) rfl (Or.inr rfl))
  (gss_cons (gs_if (gw_pt (gw_or (gt_cmp (room_u hr) (ge_fz (ge_call c_check_heap (hr.mono (by decide)) hgd rfl rfl passL (gar_val (ge_vF rfl (Or.inl rfl) rfl rfl) (gar_val (ge_vF rfl (Or.inl rfl) rfl rfl) gar_nil rfl) rfl) rfl rfl)) (ge_view gc_none) rfl) (gw_or1 (gt_cmp (room_u hr) (ge_repr (room_u hr) hgd (G.bn_repr rfl rfl) (ge_view (ge_fz (ge_call c_mirror (hr.mono (by decide)) hgd rfl rfl passL (gar_val (ge_vF rfl (Or.inl rfl) rfl rfl) (gar_val (ge_vF rfl (Or.inl rfl) rfl rfl) gar_nil rfl) rfl) rfl rfl))) rfl) (ge_view (ge_repr (room_u hr) hgd (G.bn_repr rfl rfl) (ge_view (ge_tup (ga_consF (ge_tup (ga_consF (ge_vF rfl (Or.inl rfl) rfl rfl) (ga_consF (ge_vF rfl (Or.inl rfl) rfl rfl) (ga_consF (ge_vF rfl (Or.inl rfl) rfl rfl) ga_nilF rfl) rfl) rfl) (by decide)) (ga_consF (ge_fz (ge_call c__law_mirror (hr.mono (by decide)) hgd rfl rfl passL (gar_val (ge_vF rfl (Or.inl rfl) rfl rfl) gar_nil rfl) rfl rfl)) ga_nilF rfl) rfl) (by decide))) rfl)) rfl))))
   (gss_one (gs_ret (ge_lift gc_bool)))
   gss_nil)
  (gss_cons (gs_if (gt_cmp (room_u hr) (ge_repr (room_u hr) hgd (G.bn_repr rfl rfl) (ge_view (ge_fz (ge_call c_other_side (hr.mono (by decide)) hgd rfl rfl passL (gar_val (ge_vF rfl (Or.inl rfl) rfl rfl) (gar_val (ge_vF rfl (Or.inl rfl) rfl rfl) gar_nil rfl) rfl) rfl rfl))) rfl) (ge_view (ge_repr (room_u hr) hgd (G.bn_repr rfl rfl) (ge_view (ge_tup (ga_consF (ge_vF rfl (Or.inl rfl) rfl rfl) (ga_consF (ge_fz (ge_call c__law_other (hr.mono (by decide)) hgd rfl rfl passL (gar_val (ge_vF rfl (Or.inl rfl) rfl rfl) (gar_val (ge_vF rfl (Or.inl rfl) rfl rfl) gar_nil rfl) rfl) rfl rfl)) ga_nilF rfl) rfl) (by decide))) rfl)) rfl)
   (gss_one (gs_ret (ge_lift gc_bool)))
   gss_nil)
  (gss_cons (gs_if (gt_cmp (room_u hr) (ge_repr (room_u hr) hgd (G.bn_repr rfl rfl) (ge_view (ge_fz (ge_call c_rolled (hr.mono (by decide)) hgd rfl rfl passL (gar_val (ge_vF rfl (Or.inl rfl) rfl rfl) (gar_val (ge_vF rfl (Or.inl rfl) rfl rfl) gar_nil rfl) rfl) rfl rfl))) rfl) (ge_view (ge_repr (room_u hr) hgd (G.bn_repr rfl rfl) (ge_view (ge_tup (ga_consF (ge_tup (ga_consF (ge_vF rfl (Or.inl rfl) rfl rfl) (ga_consF (ge_vF rfl (Or.inl rfl) rfl rfl) (ga_consF (ge_vF rfl (Or.inl rfl) rfl rfl) ga_nilF rfl) rfl) rfl) (by decide)) (ga_consF (ge_fz (ge_call c__law_rolled (hr.mono (by decide)) hgd rfl rfl passL (gar_val (ge_vF rfl (Or.inl rfl) rfl rfl) (gar_val (ge_vF rfl (Or.inl rfl) rfl rfl) gar_nil rfl) rfl) rfl rfl)) ga_nilF rfl) rfl) (by decide))) rfl)) rfl)
   (gss_one (gs_ret (ge_lift gc_bool)))
   gss_nil)
  (gss_cons (gs_set sc_law.nd rfl (Or.inl rfl) (by decide) (ge_call c__law_paths (hr.mono (by decide)) hgd rfl rfl passL (gar_val (ge_vF rfl (Or.inl rfl) rfl rfl) (gar_val (ge_vF rfl (Or.inl rfl) rfl rfl) gar_nil rfl) rfl) rfl rfl) rfl (Or.inr rfl))
  (gss_cons (gs_if (gw_pt (gw_or (gt_cmp (room_u hr) (ge_repr (room_u hr) hgd (G.bn_repr rfl rfl) (ge_view (ge_fz (ge_call c_paths_of (hr.mono (by decide)) hgd rfl rfl passL (gar_val (ge_vF rfl (Or.inl rfl) rfl rfl) (gar_val (ge_vF rfl (Or.inl rfl) rfl rfl) gar_nil rfl) rfl) rfl rfl))) rfl) (ge_view (ge_repr (room_u hr) hgd (G.bn_repr rfl rfl) (ge_view (ge_vF rfl (Or.inl rfl) rfl rfl)) rfl)) rfl) (gw_or (gt_truth (ge_view (ge_fz (ge_call c__law_meet (hr.mono (by decide)) hgd rfl rfl passL (gar_val (ge_vF rfl (Or.inl rfl) rfl rfl) gar_nil rfl) rfl rfl))) fun _ => rfl) (gw_or1 (gt_cmp (room_u hr) (ge_repr (room_u hr) hgd (G.bn_repr rfl rfl) (ge_view (ge_fz (ge_call c_heap_of (hr.mono (by decide)) hgd rfl rfl passL (gar_val (ge_vF rfl (Or.inl rfl) rfl rfl) (gar_val (ge_vF rfl (Or.inl rfl) rfl rfl) gar_nil rfl) rfl) rfl rfl))) rfl) (ge_view (ge_repr (room_u hr) hgd (G.bn_repr rfl rfl) (ge_view (ge_vF rfl (Or.inl rfl) rfl rfl)) rfl)) rfl)))))
   (gss_one (gs_ret (ge_lift gc_bool)))
   gss_nil)
  (gss_cons (gs_for (passes_of rfl) rfl (gi_range1 rfl G.m_range gc_int rfl) (gg_name sc_law.nd rfl (Or.inl rfl) (Or.inr rfl)) (by decide)
   (gss_cons (gs_set sc_law.nd rfl (Or.inl rfl) (by decide) (ge_lst ga_nilE (by decide)) rfl (Or.inr rfl))
    (gss_cons (gs_for (passes_of rfl) rfl (gi_range1 rfl G.m_range (ge_vF rfl (Or.inl rfl) rfl rfl) rfl) (gg_name sc_law.nd rfl (Or.inl rfl) (Or.inr rfl)) (by decide)
     (gss_cons (gs_set sc_law.nd rfl (Or.inl rfl) (by decide) (ge_mul (ge_fz (ge_lst (ga_consE (ge_lift gc_str) ga_nilE rfl) (by decide))) (ge_vF rfl (Or.inl rfl) rfl rfl)) rfl (Or.inr rfl))
      (gss_cons (gs_for (passes_of rfl) rfl (gi_range1 rfl G.m_range (ge_vF rfl (Or.inl rfl) rfl rfl) rfl) (gg_name sc_law.nd rfl (Or.inl rfl) (Or.inr rfl)) (by decide)
       (gss_one (gs_expr (ge_insert ⟨rfl, (Or.inl rfl), rfl, rfl⟩ (ge_fz (ge_call c__law_draw (hr.mono (by decide)) hgd rfl rfl passL (gar_slot ⟨rfl, (Or.inr (Or.inl rfl)), rfl, rfl⟩ (gar_val (ge_fz (ge_add (ge_len (G.bn_len rfl rfl) (ge_vO rfl (Or.inl rfl) rfl rfl) rfl) gc_int)) gar_nil rfl)) rfl rfl)) gc_str rfl rfl rfl rfl rfl) rfl)) rfl)
      (gss_one (gs_expr (ge_append ⟨rfl, (Or.inl rfl), rfl, rfl⟩ (ge_if (gt_cmp (room_u hr) (ge_fz (ge_call c__law_draw (hr.mono (by decide)) hgd rfl rfl passL (gar_slot ⟨rfl, (Or.inr (Or.inl rfl)), rfl, rfl⟩ (gar_val gc_int gar_nil rfl)) rfl rfl)) (ge_view gc_int) rfl) (ge_lift (ge_tupOf (G.bn_tuple rfl rfl) (ge_vO rfl (Or.inl rfl) rfl rfl) rfl)) (ge_lift (ge_ixF (ge_vF rfl (Or.inl rfl) rfl rfl) (ge_vF rfl (Or.inl rfl) rfl rfl) rfl))) rfl rfl rfl rfl) rfl)))) rfl)
    (gss_cons (gs_set sc_law.nd rfl (Or.inl rfl) (by decide) (ge_call c_heap_of (hr.mono (by decide)) hgd rfl rfl passL (gar_val (ge_vF rfl (Or.inl rfl) rfl rfl) (gar_val (ge_tupOf (G.bn_tuple rfl rfl) (ge_vO rfl (Or.inl rfl) rfl rfl) rfl) gar_nil rfl) rfl) rfl rfl) rfl (Or.inr rfl))
    (gss_one (gs_if (gw_pt (gw_or (gt_cmp (room_u hr) (ge_cmp (room_u hr) (ge_vF rfl (Or.inl rfl) rfl rfl) (ge_view gc_none) rfl) (ge_view (ge_fz (ge_call c__law_meet (hr.mono (by decide)) hgd rfl rfl passL (gar_val (ge_fz (ge_vE rfl (Or.inl rfl) rfl rfl)) gar_nil rfl) rfl rfl))) rfl) (gw_or1 (gw_pt (gw_and (gt_cmp (room_u hr) (ge_vF rfl (Or.inl rfl) rfl rfl) (ge_view gc_none) rfl) (gw_and1 (gt_cmp (room_u hr) (ge_fz (ge_call c__law_paths (hr.mono (by decide)) hgd rfl rfl passL (gar_val (ge_vF rfl (Or.inl rfl) rfl rfl) (gar_val (ge_vF rfl (Or.inl rfl) rfl rfl) gar_nil rfl) rfl) rfl rfl)) (ge_view (ge_tupOf (G.bn_tuple rfl rfl) (ge_vO rfl (Or.inl rfl) rfl rfl) rfl)) rfl)))))))
     (gss_one (gs_ret (ge_lift gc_bool)))
     gss_nil))))) rfl)
  (gss_one (gs_ret (ge_lift (ge_cmp (room_u hr) (ge_repr (room_u hr) hgd (G.bn_repr rfl rfl) (ge_view (ge_vF rfl (Or.inl rfl) rfl rfl)) rfl) (ge_view (ge_vF rfl (Or.inl rfl) rfl rfl)) rfl)))))))))))))))))))))

end
end TW


set_option linter.all false
set_option maxRecDepth 100000
set_option maxHeartbeats 1000000
namespace TW
open PySem L2
section
variable {α β : Type} {f : Sm α} {g : α → Sm β} {ev : Ev}
@[simp] theorem e_bd : bd f g ev = (match f ev with | .ok (a, d') => g a d' | .exc c => .exc c | .no => .no) := (rfl)
@[simp] theorem e_ret (a : α) : sret a ev = .ok (a, ev) := (rfl)
@[simp] theorem e_fail : (sfail : Sm α) ev = .no := (rfl)
@[simp] theorem e_opt (a : α) : sopt (some a) = sret a := (rfl)
@[simp] theorem e_vF {i : Nat} : vF i ev = (match ev[i]? with | some (some (.fz x)) => .ok (x, ev) | _ => .no) := (rfl)
@[simp] theorem e_vO {i : Nat} : vO i ev = (match ev[i]? with | some (some m) => (match flat m with | some x => .ok (x, ev) | none => .no) | _ => .no) := (rfl)
@[simp] theorem e_vE {i : Nat} : vE i ev = (match ev[i]? with
  | some (some (.fz x)) => .ok (.fz x, ev)
  | some (some (.fn x)) => .ok (.fn x, ev)
  | some (some (.sc x)) => .ok (.sc x, ev)
  | some (some (.ml xs)) => (match frzs xs with
    | some ds => .ok (.fz (.list ds), ev.set i (some (.fz (.list ds))))
    | none => .no)
  | _ => .no) := (rfl)
@[simp] theorem e_seq {f g : Sm Fl} : sSeq f g ev = (match f ev with | .ok (.nx, d') => g d' | .ok (fl, d') => .ok (fl, d') | .exc c => .exc c | .no => .no) := by
  unfold sSeq bd
  cases h : f ev with
  | ok p =>
    obtain ⟨fl, d⟩ := p
    cases fl <;> rfl
  | _ => rfl
@[simp] theorem e_nx : sNx ev = .ok (.nx, ev) := (rfl)
@[simp] theorem e_set {i : Nat} {f : Sm M} : sSet i f ev = (match f ev with | .ok (m, d) => if i < d.length then .ok (.nx, d.set i (some m)) else .no | .exc c => .exc c | .no => .no) := by
  unfold sSet bd
  cases f ev with
  | ok p => obtain ⟨a, b⟩ := p <;> rfl
  | _ => rfl
@[simp] theorem e_rt {f : Sm M} : sRt f ev = (match f ev with | .ok (m, d) => .ok (.rt m, d) | .exc c => .exc c | .no => .no) := by
  unfold sRt bd
  cases f ev with
  | ok p => obtain ⟨a, b⟩ := p <;> rfl
  | _ => rfl
@[simp] theorem e_drop {f : Sm α} : sDrop f ev = (match f ev with | .ok (m, d) => .ok (.nx, d) | .exc c => .exc c | .no => .no) := (rfl)
@[simp] theorem e_if {f : Sm Bool} {g h : Sm α} : sIf f g h ev = (match f ev with | .ok (r, d) => (if r = true then g d else h d) | .exc c => .exc c | .no => .no) := by
  unfold sIf bd
  cases f ev with
  | ok p =>
    obtain ⟨r, d⟩ := p
    cases r <;> rfl
  | _ => rfl
@[simp] theorem e_asg {g : PyData → Ev → Option Ev} {f : Sm PyData} : sAsg g f ev = (match f ev with | .ok (d, e) => (match g d e with | some e' => .ok (.nx, e') | none => .no) | .exc c => .exc c | .no => .no) := by
  unfold sAsg bd
  cases f ev with
  | ok p => obtain ⟨a, b⟩ := p <;> rfl
  | _ => rfl
@[simp] theorem e_for {g : PyData → Ev → Option Ev} {fb : Sm Fl} {fi : Sm (List PyData)} : sFor g fb fi ev = (match fi ev with | .ok (ds, e) => forLoop g fb ds e | .exc c => .exc c | .no => .no) := by
  unfold sFor bd
  cases fi ev with
  | ok p => obtain ⟨a, b⟩ := p <;> rfl
  | _ => rfl
@[simp] theorem e_gN {i : Nat} {d : PyData} : gN i d ev = if i < ev.length then some (ev.set i (some (.fz d))) else none := (rfl)
@[simp] theorem e_consF {f : Sm PyData} {g : Sm (List PyData)} : sConsF f g ev = (match f ev with | .ok (d, e) => (match g e with | .ok (ds, e') => .ok (d :: ds, e') | .exc c => .exc c | .no => .no) | .exc c => .exc c | .no => .no) := by
  unfold sConsF bd
  cases h : f ev with
  | ok p =>
    obtain ⟨r, d⟩ := p
    simp only []
    cases g d <;> rfl
  | _ => rfl
@[simp] theorem e_nilF : sNilF ev = .ok ([], ev) := (rfl)
@[simp] theorem e_add (i j : Int) : sAdd (.int i) (.int j) = sret (.fz (.int (i + j))) := (rfl)
@[simp] theorem e_sub (i j : Int) : sSub (.int i) (.int j) = sret (.int (i - j)) := (rfl)
@[simp] theorem e_mul (i j : Int) : sMul (.int i) (.int j) = if mulOk i j then sret (.fz (.int (i * j))) else sfail := (rfl)
@[simp] theorem e_frz (d : PyData) : frz (.fz d) = some d := (rfl)
theorem e_rg2 (i j : Int) : sRg2 (.int i) (.int j) = if (-16777216 ≤ i ∧ i ≤ 16777216) ∧ -16777216 ≤ j ∧ j ≤ 16777216 ∧ j - i ≤ 16777216 then sret (rgI i (j - i).toNat) else sfail := rfl
theorem e_rg1 (j : Int) : sRg1 (.int j) = if j ≤ 16777216 ∧ -16777216 ≤ j then sret (rgI 0 j.toNat) else sfail := rfl
@[simp] theorem e_arg0 : (sret [] : Sm (List AR)) ev = .ok ([], ev) := (rfl)
@[simp] theorem e_argV {f : Sm PyData} {g : Sm (List AR)} : sArgV f g ev = (match f ev with | .ok (d, e) => (match g e with | .ok (as, e') => .ok (.val (.fz d) :: as, e') | .exc c => .exc c | .no => .no) | .exc c => .exc c | .no => .no) := by
  unfold sArgV bd
  cases h : f ev with
  | ok p =>
    obtain ⟨r, d⟩ := p
    simp only []
    cases g d <;> rfl
  | _ => rfl
@[simp] theorem e_argS {i : Nat} {g : Sm (List AR)} : sArgS i g ev = (match vA i ev with | .ok (a, e) => (match g e with | .ok (as, e') => .ok (a :: as, e') | .exc c => .exc c | .no => .no) | .exc c => .exc c | .no => .no) := by
  unfold sArgS bd
  cases h : vA i ev with
  | ok p =>
    obtain ⟨r, d⟩ := p
    simp only []
    cases g d <;> rfl
  | _ => rfl
@[simp] theorem e_vA {i : Nat} : vA i ev = (match ev[i]? with
  | some (some (.ml _)) => .ok (.sl i, ev)
  | some (some m) => .ok (.val m, ev)
  | _ => .no) := (rfl)
@[simp] theorem e_call {F : FS} {fs : Sm (List AR)} : sCall F fs ev = (match fs ev with | .ok (as, e) => callK F as e | .exc c => .exc c | .no => .no) := by
  unfold sCall bd
  cases fs ev with
  | ok p => obtain ⟨a, b⟩ := p <;> rfl
  | _ => rfl
@[simp] theorem e_callK {F : FS} {as : List AR} : callK F as ev = if (slotsOf as).Nodup then (match resA ev as with
  | some ms => (match F ms with
    | .ok (m, outs) => if outs.length = as.length then .ok (m, putA ev as outs) else .no
    | .exc c => .exc c
    | .no => .no)
  | none => .no) else .no := (rfl)
@[simp] theorem e_lt (i j : Int) : sCmp .Lt (.int i) (.int j) = sret (decide (i < j)) := (rfl)
@[simp] theorem e_le (i j : Int) : sCmp .LtE (.int i) (.int j) = sret (decide (i ≤ j)) := (rfl)
@[simp] theorem e_gt (i j : Int) : sCmp .Gt (.int i) (.int j) = sret (decide (j < i)) := (rfl)
@[simp] theorem e_ge (i j : Int) : sCmp .GtE (.int i) (.int j) = sret (decide (j ≤ i)) := (rfl)
@[simp] theorem e_ixL (xs : List PyData) (i : Int) : TW.sIx (.list xs) (.int i) = sopt (atI xs i) := (rfl)
@[simp] theorem e_ixT (xs : List PyData) (i : Int) : TW.sIx (.tuple xs) (.int i) = sopt (atI xs i) := (rfl)
@[simp] theorem e_div (i j : Int) : sDiv (.int i) (.int j) = if 0 < j ∧ (j < 1073741824 ∨ j.natAbs.log2 < 9000) then sret (.int (i / j)) else sfail := (rfl)
@[simp] theorem e_mod (i j : Int) : sMod (.int i) (.int j) = if 0 < j then sret (.int (i % j)) else sfail := (rfl)
@[simp] theorem e_intOf (i : Int) : sIntOf (.int i) = sret (.int i) := (rfl)
@[simp] theorem e_not {f : Sm Bool} : sNot f ev = (match f ev with | .ok (r, d) => .ok (!r, d) | .exc c => .exc c | .no => .no) := by
  unfold sNot bd
  cases f ev with
  | ok p => obtain ⟨a, b⟩ := p <;> rfl
  | _ => rfl
@[simp] theorem e_or {f g : Sm Bool} : sOr f g ev = (match f ev with | .ok (r, d) => (if r = true then .ok (true, d) else g d) | .exc c => .exc c | .no => .no) := by
  unfold sOr bd
  cases f ev with
  | ok p =>
    obtain ⟨r, d⟩ := p
    cases r <;> rfl
  | _ => rfl
@[simp] theorem e_and {f g : Sm Bool} : sAnd f g ev = (match f ev with | .ok (r, d) => (if r = true then g d else .ok (false, d)) | .exc c => .exc c | .no => .no) := by
  unfold sAnd bd
  cases f ev with
  | ok p =>
    obtain ⟨r, d⟩ := p
    cases r <;> rfl
  | _ => rfl
@[simp] theorem e_ml {i : Nat} : sMl i ev = (match ev[i]? with | some (some (.ml _)) => .ok ((), ev) | _ => .no) := (rfl)
@[simp] theorem e_setIx {i : Nat} {fe : Sm M} {fk : Sm PyData} : sSetIx i fe fk ev = (match fe ev with
  | .ok (m, e) => (match sMl i e with
    | .ok (_, e1) => (match fk e1 with
      | .ok (.int k, e2) => oSm .nx (sMut i (kSet k m) e2)
      | .ok _ => .no
      | .exc c => .exc c
      | .no => .no)
    | .exc c => .exc c
    | .no => .no)
  | .exc c => .exc c
  | .no => .no) := by
  unfold sSetIx bd
  cases h : fe ev with
  | ok p =>
    obtain ⟨r, d⟩ := p
    simp only []
    cases h2 : sMl i d with
    | ok p =>
      obtain ⟨_, d2⟩ := p
      simp only []
      cases h3 : fk d2 with
      | ok p =>
        obtain ⟨x, d3⟩ := p
        cases x <;> rfl
      | _ => rfl
    | _ => rfl
  | _ => rfl
end
theorem mulR {i j : Int} (h1 : -1000000 < j) (h2 : j < 1000000) : mulOk i j := .inr (.inl ⟨by omega, by omega⟩)
/-- a for loop as a fold -/
theorem forLoop_fold {γ : Type} {g : PyData → Ev → Option Ev} {fb : Sm Fl} (enc : γ → Ev) (step : γ → PyData → γ) (P : PyData → Prop)
    (h : ∀ b d, P d → ∃ ev1, g d (enc b) = some ev1 ∧ fb ev1 = .ok (.nx, enc (step b d))) : ∀ (items : List PyData) (b : γ), (∀ d ∈ items, P d) → forLoop g fb items (enc b) = .ok (.nx, enc (items.foldl step b))
  | [], b, _ => rfl
  | d :: ds, b, hp => by
    obtain ⟨ev1, e1, e2⟩ := h b d (hp d (List.mem_cons_self ..))
    rw [forLoop, e1]
    show (match fb ev1 with | .ok (.nx, ev2) => forLoop g fb ds ev2 | .ok (.ct, ev2) => forLoop g fb ds ev2 | .ok (.bk, ev2) => .ok (.nx, ev2) | .ok (.rt m, ev2) => .ok (.rt m, ev2) | .exc c => .exc c | .no => .no) = _
    rw [e2]
    exact forLoop_fold enc step P h ds _ fun x hx => hp x (List.mem_cons_of_mem _ hx)
def stM (s0 s1 : Int) : M := .ml [.fz (.int s0), .fz (.int s1)]
theorem at0 {α : Type} (a b : α) : atI [a, b] 0 = some a := rfl
theorem at1 {α : Type} (a b : α) : atI [a, b] 1 = some b := rfl
theorem draw_ok (s0 s1 : Int) (m : Int) (hm : 0 < m) (h2 : m < 1000000) : ∃ r t0 t1, (0 ≤ r ∧ r < m) ∧ F__law_draw [stM s0 s1, .fz (.int m)] = .ok (.fz (.int r), [some (stM t0 t1), some (.fz (.int m))]) := by
  have h3 : m < 1073741824 := by omega
  by_cases h : 0 < s0
  · refine ⟨s0 % m, s0 / m, s1, ⟨Int.emod_nonneg _ (by omega), Int.emod_lt_of_pos _ hm⟩, ?_⟩
    simp [F__law_draw, fnRun, s__law_draw, stM, flat, flats, at0, at1, h, hm, h3, sMut, kSet, ixN, oSm, outsOf, List.range, List.range.loop]
  · refine ⟨(s1 * 48271 + 12345) % 2147483647 / 64 % m, s0, (s1 * 48271 + 12345) % 2147483647, ⟨Int.emod_nonneg _ (by omega), Int.emod_lt_of_pos _ hm⟩, ?_⟩
    have m1 : mulOk s1 48271 := mulR (by decide) (by decide)
    simp [F__law_draw, fnRun, s__law_draw, stM, flat, flats, at0, at1, h, hm, h3, m1, sMut, kSet, ixN, oSm, outsOf, List.range, List.range.loop]
theorem number_body (bx : PyData) (i t l j k : Int) (hi : 0 ≤ i ∧ i ≤ 100) (hj : 0 ≤ j ∧ j ≤ 100) (hk : 0 ≤ k ∧ k ≤ 100) :
    (sSeq (sSet 2 (bd (vF 2) fun d => bd (bd (bd (bd (bd (bd (vF 1) fun d => bd (vF 4) fun e => sAdd d e) fun m => sopt (frz m)) fun d => bd (vF 5) fun e => sAdd d e) fun m => sopt (frz m)) fun d => bd (sret (.int 1)) fun e => sSub d e) fun e => sMul d e))
        (sSet 3 (bd (vF 3) fun d => bd (bd (bd (bd (bd (bd (vF 1) fun d => bd (vF 4) fun e => sAdd d e) fun m => sopt (frz m)) fun d => bd (vF 5) fun e => sAdd d e) fun m => sopt (frz m)) fun d => bd (sret (.int 2)) fun e => sSub d e) fun e => sMul d e)))
     [some (.fz bx), some (.fz (.int i)), some (.fz (.int t)), some (.fz (.int l)), some (.fz (.int j)), some (.fz (.int k))]
      = .ok (.nx, [some (.fz bx), some (.fz (.int i)), some (.fz (.int (t * (i + j + k - 1)))), some (.fz (.int (l * (i + j + k - 2)))), some (.fz (.int j)), some (.fz (.int k))]) := by
  have m1 : ∀ t, mulOk t (i + j + k - 1) := fun t => mulR (by omega) (by omega)
  have m2 : ∀ t, mulOk t (i + j + k - 2) := fun t => mulR (by omega) (by omega)
  simp [m1, m2]
end TW


set_option linter.all false
set_option maxRecDepth 100000
set_option maxHeartbeats 1000000
namespace TW
open PySem L2
theorem forLoop_inv {g : PyData → Ev → Option Ev} {fb : Sm Fl} (I : Nat → Ev → Prop) : ∀ (items : List PyData) (k : Nat) (ev : Ev), I k ev →
    (∀ i d ev, items[i]? = some d → I (k + i) ev → ∃ ev1 ev2, g d ev = some ev1 ∧ fb ev1 = .ok (.nx, ev2) ∧ I (k + i + 1) ev2) → ∃ ev', forLoop g fb items ev = .ok (.nx, ev') ∧ I (k + items.length) ev'
  | [], k, ev, h0, _ => ⟨ev, rfl, h0⟩
  | d :: ds, k, ev, h0, h => by
    obtain ⟨ev1, ev2, e1, e2, e3⟩ := h 0 d ev rfl h0
    obtain ⟨ev', e4, e5⟩ := forLoop_inv I ds (k + 1) ev2 e3 fun i d' ev' hi hI => by
      have := h (i + 1) d' ev' (by simpa using hi) (by rwa [show k + (i + 1) = k + 1 + i by omega])
      rwa [show k + (i + 1) + 1 = k + 1 + i + 1 by omega] at this
    refine ⟨ev', ?_, by rwa [List.length_cons, show k + (ds.length + 1) = k + 1 + ds.length by omega]⟩
    rw [forLoop, e1]
    show (match fb ev1 with | .ok (.nx, ev2) => forLoop g fb ds ev2 | .ok (.ct, ev2) => forLoop g fb ds ev2 | .ok (.bk, ev2) => .ok (.nx, ev2) | .ok (.rt m, ev2) => .ok (.rt m, ev2) | .exc c => .exc c | .no => .no) = _
    rw [e2]
    exact e4
theorem rgI_len (lo : Int) (n : Nat) : (rgI lo n).length = n := by unfold rgI; rw [List.length_map, List.length_range]
theorem rgI_at {lo : Int} {n i : Nat} {d : PyData} (h : (rgI lo n)[i]? = some d) : i < n ∧ d = .int (lo + i) := by
  unfold rgI at h
  rw [List.getElem?_map] at h
  obtain ⟨j, h1, h2⟩ := Option.map_eq_some_iff.mp h
  obtain ⟨h3, h4⟩ := List.getElem?_eq_some_iff.mp h1
  rw [List.length_range] at h3
  rw [List.getElem_range] at h4
  subst h4
  exact ⟨h3, h2.symm⟩
/-- a loop over a range -/
theorem forRange {g : PyData → Ev → Option Ev} {fb : Sm Fl} {lo : Int} {n : Nat} (I : Nat → Ev → Prop) {ev : Ev} (h0 : I 0 ev)
    (h : ∀ i ev, i < n → I i ev → ∃ ev1 ev2, g (.int (lo + i)) ev = some ev1 ∧ fb ev1 = .ok (.nx, ev2) ∧ I (i + 1) ev2) : ∃ ev', forLoop g fb (rgI lo n) ev = .ok (.nx, ev') ∧ I n ev' := by
  have := forLoop_inv I (rgI lo n) 0 ev h0 fun i d ev hd hI => by
    obtain ⟨h1, h2⟩ := rgI_at hd
    subst h2
    rw [Nat.zero_add] at hI ⊢
    exact h i ev h1 hI
  rwa [rgI_len, Nat.zero_add] at this

def bxD (a b c : Nat) : PyData := .tuple [.int a, .int b, .int c]
theorem at3_0 {α : Type} (a b c : α) : atI [a, b, c] 0 = some a := rfl
theorem at3_1 {α : Type} (a b c : α) : atI [a, b, c] 1 = some b := rfl
theorem at3_2 {α : Type} (a b c : α) : atI [a, b, c] 2 = some c := rfl
@[simp] theorem ixB0 (a b c : Nat) : TW.sIx (bxD a b c) (.int 0) = sret (.int a) := (rfl)
@[simp] theorem ixB1 (a b c : Nat) : TW.sIx (bxD a b c) (.int 1) = sret (.int b) := (rfl)
@[simp] theorem ixB2 (a b c : Nat) : TW.sIx (bxD a b c) (.int 2) = sret (.int c) := (rfl)
def pk (s : Int) : Nat → Int → Int
  | 0, t => t
  | n + 1, t => pk s n t * (s + n)
def pj (e i : Int) (c : Nat) : Nat → Int → Int
  | 0, t => t
  | n + 1, t => pk (i + (1 + n) - e) c (pj e i c n t)
def pi (e : Int) (b c : Nat) : Nat → Int → Int
  | 0, t => t
  | n + 1, t => pj e (1 + n) c b (pi e b c n t)
@[simp] theorem e_gT3 {g1 g2 g3 : PyData → Ev → Option Ev} {x y z : PyData} {ev : Ev} : gT 3 (gsC g1 (gsC g2 (gsC g3 gsN))) (.tuple [x, y, z]) ev = (match g1 x ev with | some e1 => (match g2 y e1 with | some e2 => g3 z e2 | none => none) | none => none) := by
  simp only [gT, gsC, gsN, List.length_cons, List.length_nil]
  cases g1 x ev with
  | none => rfl
  | some e1 =>
    simp only []
    cases g2 y e1 with
    | none => rfl
    | some e2 =>
      simp only []
      cases g3 z e2 <;> rfl
@[simp] theorem e_gT2 {g1 g2 : PyData → Ev → Option Ev} {x y : PyData} {ev : Ev} : gT 2 (gsC g1 (gsC g2 gsN)) (.tuple [x, y]) ev = (match g1 x ev with | some e1 => g2 y e1 | none => none) := by
  simp only [gT, gsC, gsN, List.length_cons, List.length_nil]
  cases g1 x ev with
  | none => rfl
  | some e1 =>
    simp only []
    cases g2 y e1 <;> rfl
theorem rg2n {n : Nat} (h : n ≤ 1000) : sRg2 (.int 1) (.int (n + 1)) = sret (rgI 1 n) := by
  rw [e_rg2, if_pos (by omega)]
  rw [show ((n : Int) + 1 - 1).toNat = n by omega]
theorem rg1n {n : Nat} (h : n ≤ 1000) : sRg1 (.int n) = sret (rgI 0 n) := by
  rw [e_rg1, if_pos (by omega)]
  rfl
theorem for_ok {g : PyData → Ev → Option Ev} {fb : Sm Fl} {fi : Sm (List PyData)} {ev e : Ev} {items : List PyData} {r : Res (Fl × Ev)} (h1 : fi ev = .ok (items, e)) (h2 : forLoop g fb items e = r) : sFor g fb fi ev = r := by
  rw [e_for, h1]
  exact h2
theorem seq_ok {f g : Sm Fl} {ev e : Ev} {r : Res (Fl × Ev)} (h1 : f ev = .ok (.nx, e)) (h2 : g e = r) : sSeq f g ev = r := by
  rw [e_seq, h1]
  exact h2
theorem run_rt {N n : Nat} {pin : List Nat} {body : Sm Fl} {ms : List M} {m : M} {ev : Ev} (h : body (ms.map some ++ List.replicate (N - n) none) = .ok (.rt m, ev)) : fnRun N n pin body ms = .ok (m, outsOf n pin ev) := by
  unfold fnRun
  rw [h]
theorem run_nx {N n : Nat} {pin : List Nat} {body : Sm Fl} {ms : List M} {ev : Ev} (h : body (ms.map some ++ List.replicate (N - n) none) = .ok (.nx, ev)) : fnRun N n pin body ms = .ok (.fz .none, outsOf n pin ev) := by
  unfold fnRun
  rw [h]
theorem outs1 {a : Option M} {r : Ev} : outsOf 1 [0] (a :: r) = [a] := (rfl)
theorem outs2 {a b : Option M} {r : Ev} : outsOf 2 [0, 1] (a :: b :: r) = [a, b] := (rfl)
theorem number_ok {a b c : Nat} (ha : a ≤ 100) (hb : b ≤ 100) (hc : c ≤ 100) (hl : 0 < pi 1 b c a 1 ∧ (pi 1 b c a 1).natAbs.log2 < 9000) : F__law_number [.fz (bxD a b c)] = .ok (.fz (.int (pi 0 b c a 1 / pi 1 b c a 1)), [some (.fz (bxD a b c))]) := by
  have L := forRange (g := gN 1) (lo := 1) (n := a) (fb := s__law_number_f2)
    (fun n ev => ∃ x1 x4 x5, ev = [some (.fz (bxD a b c)), x1, some (.fz (.int (pi 0 b c n 1))), some (.fz (.int (pi 1 b c n 1))), x4, x5])
    (ev := [some (.fz (bxD a b c)), none, some (.fz (.int 1)), some (.fz (.int 1)), none, none]) ⟨_, _, _, rfl⟩ fun i ev hi ⟨x1, x4, x5, e⟩ => by
      subst e
      have L2 := forRange (g := gN 4) (lo := 1) (n := b) (fb := s__law_number_f1)
        (fun n ev => ∃ x4 x5, ev = [some (.fz (bxD a b c)), some (.fz (.int (1 + i))), some (.fz (.int (pj 0 (1 + i) c n (pi 0 b c i 1)))), some (.fz (.int (pj 1 (1 + i) c n (pi 1 b c i 1)))), x4, x5])
        (ev := [some (.fz (bxD a b c)), some (.fz (.int (1 + i))), some (.fz (.int (pi 0 b c i 1))), some (.fz (.int (pi 1 b c i 1))), x4, x5]) ⟨_, _, rfl⟩ fun j ev hj ⟨y4, y5, e⟩ => by
          subst e
          have L3 := forRange (g := gN 5) (lo := 1) (n := c) (fb := s__law_number_f0)
            (fun n ev => ∃ x5, ev = [some (.fz (bxD a b c)), some (.fz (.int (1 + i))), some (.fz (.int (pk (1 + i + (1 + j) - 0) n (pj 0 (1 + i) c j (pi 0 b c i 1))))), some (.fz (.int (pk (1 + i + (1 + j) - 1) n (pj 1 (1 + i) c j (pi 1 b c i 1))))), some (.fz (.int (1 + j))), x5])
            (ev := [some (.fz (bxD a b c)), some (.fz (.int (1 + i))), some (.fz (.int (pj 0 (1 + i) c j (pi 0 b c i 1)))), some (.fz (.int (pj 1 (1 + i) c j (pi 1 b c i 1)))), some (.fz (.int (1 + j))), y5]) ⟨_, rfl⟩ fun k ev hk ⟨z5, e⟩ => by
              subst e
              refine ⟨_, _, rfl, number_body _ _ _ _ _ _ (by omega) (by omega) (by omega), some (.fz (.int (1 + k))), ?_⟩
              simp only [pk]
              have e1 : (1 + (i : Int) + (1 + j) + (1 + k) - 1) = 1 + i + (1 + j) - 0 + k := by omega
              have e2 : (1 + (i : Int) + (1 + j) + (1 + k) - 2) = 1 + i + (1 + j) - 1 + k := by omega
              rw [e1, e2]
          obtain ⟨ev', e1, w5, e2⟩ := L3
          refine ⟨_, ev', rfl, ?_, some (.fz (.int (1 + j))), w5, e2⟩
          exact for_ok (by simp [rg2n (show c ≤ 1000 by omega)]) e1
      obtain ⟨ev', e1, w4, w5, e2⟩ := L2
      refine ⟨_, ev', rfl, ?_, some (.fz (.int (1 + i))), w4, w5, e2⟩
      exact for_ok (by simp [rg2n (show b ≤ 1000 by omega)]) e1
  obtain ⟨ev', e1, w1, w4, w5, e2⟩ := L
  subst e2
  have key : s__law_number [some (.fz (bxD a b c)), none, none, none, none, none] = .ok (.rt (.fz (.int (pi 0 b c a 1 / pi 1 b c a 1))), [some (.fz (bxD a b c)), w1, some (.fz (.int (pi 0 b c a 1))), some (.fz (.int (pi 1 b c a 1))), w4, w5]) := by
    unfold s__law_number
    refine seq_ok (e := [some (.fz (bxD a b c)), none, some (.fz (.int 1)), some (.fz (.int 1)), none, none]) (by simp) ?_
    refine seq_ok (for_ok (items := rgI 1 a) (e := [some (.fz (bxD a b c)), none, some (.fz (.int 1)), some (.fz (.int 1)), none, none]) (by simp [rg2n (show a ≤ 1000 by omega)]) e1) ?_
    simp [hl]
  have k2 := run_rt (N := 6) (n := 1) (pin := [0]) (body := s__law_number) (ms := [.fz (bxD a b c)]) key
  rw [outs1] at k2
  exact k2
end TW


set_option linter.all false
set_option maxRecDepth 100000
set_option maxHeartbeats 1000000
namespace TW
open PySem L2
theorem loop_cons {T : Type} {vs : List Nat} {g : PyData → Ev → Option Ev} {tt : Sm Bool} {tl : TLs T} {d : PyData} {ds : List PyData} {acc : T} {ev ev1 : Ev} (h : g d ev = some ev1) : loopG vs g tt tl (d :: ds) acc ev = (match tt ev1 with
      | .ok (true, ev2) => (match tl acc ev2 with | some (acc', ev3) => loopG vs g tt tl ds acc' (wipeE ev3 vs) | none => none)
      | .ok (false, ev2) => loopG vs g tt tl ds acc (wipeE ev2 vs)
      | _ => none) := by
  rw [loopG, h] <;> rfl
theorem loop_flat {vs : List Nat} {g : PyData → Ev → Option Ev} {tt : Sm Bool} {tl : TLs (List M)} {base : Ev} {out : PyData → List M} : ∀ (items : List PyData) (acc : List M), acc.length + (items.flatMap out).length ≤ 1000000 →
    (∀ d ∈ items, ∀ acc : List M, acc.length + (out d).length ≤ 1000000 → ∃ e, g d base = some e ∧ ((tt e = .ok (true, e) ∧ ∃ e2, tl acc e = some (acc ++ out d, e2) ∧ wipeE e2 vs = base) ∨ (tt e = .ok (false, e) ∧ out d = [] ∧ wipeE e vs = base))) →
    loopG vs g tt tl items acc base = some (acc ++ items.flatMap out, base)
  | [], acc, _, _ => by simp [loopG]
  | d :: ds, acc, hl, H => by
    rw [List.flatMap_cons, List.length_append] at hl
    obtain ⟨e, h1, h2⟩ := H d (List.mem_cons_self ..) acc (by omega)
    have ih := fun a hl => loop_flat ds a hl fun x hx => H x (List.mem_cons_of_mem _ hx)
    rw [loop_cons h1]
    rcases h2 with ⟨h3, e2, h4, h5⟩ | ⟨h3, h4, h5⟩
    · rw [h3]
      simp only []
      rw [h4]
      simp only []
      rw [h5, ih _ (by rw [List.length_append]; omega), List.flatMap_cons, List.append_assoc]
    · rw [h3]
      simp only []
      rw [h5, ih _ (by omega), List.flatMap_cons, h4, List.nil_append]
/-- a comprehension whose parts give the environment back -/
theorem lg_flat {vs : List Nat} {g : PyData → Ev → Option Ev} {tt : Sm Bool} {tl : TLs (List M)} {fi : Sm (List PyData)} {ev ev1 : Ev} {items : List PyData} (out : PyData → List M) (hfi : fi ev = .ok (items, ev1)) (hn : vs.all (fun v => notMl ev1[v]?) = true)
    (hb : (items.flatMap out).length ≤ 1000000)
    (H : ∀ d ∈ items, ∀ acc : List M, acc.length + (out d).length ≤ 1000000 → ∃ e, g d (wipeE ev1 vs) = some e ∧ ((tt e = .ok (true, e) ∧ ∃ e2, tl acc e = some (acc ++ out d, e2) ∧ wipeE e2 vs = wipeE ev1 vs) ∨ (tt e = .ok (false, e) ∧ out d = [] ∧ wipeE e vs = wipeE ev1 vs)))
    (hr : restE ev1 (wipeE ev1 vs) vs = ev1) : sLg vs g tt tl fi ev = .ok (.ml (items.flatMap out), ev1) := by
  unfold sLg
  rw [e_bd, hfi]
  show sLgT vs g tt tl items ev1 = _
  unfold sLgT
  rw [if_pos hn, loop_flat items [] (by simpa using hb) H]
  show Res.ok (M.ml ([] ++ items.flatMap out), restE ev1 (wipeE ev1 vs) vs) = _
  rw [hr, List.nil_append]
theorem tl_last {fe : Sm M} {acc : List M} {e e' : Ev} {m : M} (hl : acc.length < 1000000) (h : fe e = .ok (m, e')) : tlLast fe acc e = some (acc ++ [m], e') := by
  unfold tlLast
  rw [h]
  exact if_pos (by omega)
theorem tl_mid {vs : List Nat} {g : PyData → Ev → Option Ev} {tt : Sm Bool} {tl : TLs (List M)} {fi : Sm (List PyData)} {ev ev1 : Ev} {items : List PyData} {acc : List M} (out : PyData → List M) (hfi : fi ev = .ok (items, ev1)) (hb : acc.length + (items.flatMap out).length ≤ 1000000)
    (H : ∀ d ∈ items, ∀ acc : List M, acc.length + (out d).length ≤ 1000000 → ∃ e, g d (wipeE ev1 vs) = some e ∧ ((tt e = .ok (true, e) ∧ ∃ e2, tl acc e = some (acc ++ out d, e2) ∧ wipeE e2 vs = wipeE ev1 vs) ∨ (tt e = .ok (false, e) ∧ out d = [] ∧ wipeE e vs = wipeE ev1 vs))) :
    tlMid vs g tt tl fi acc ev = some (acc ++ items.flatMap out, wipeE ev1 vs) := by
  unfold tlMid
  rw [hfi]
  exact loop_flat items acc hb H
theorem flat_one {α β : Type} (h : α → β) : ∀ l : List α, l.flatMap (fun d => [h d]) = l.map h
  | [] => rfl
  | a :: l => by rw [List.flatMap_cons, flat_one h l]; rfl
/-- the plain form: [fe for x in items] -/
theorem lg_map {vs : List Nat} {g : PyData → Ev → Option Ev} {fe : Sm M} {fi : Sm (List PyData)} {ev ev1 : Ev} {items : List PyData} (h : PyData → M) (hfi : fi ev = .ok (items, ev1)) (hn : vs.all (fun v => notMl ev1[v]?) = true) (hb : items.length ≤ 1000000)
    (H : ∀ d ∈ items, ∃ e, g d (wipeE ev1 vs) = some e ∧ fe e = .ok (h d, e) ∧ wipeE e vs = wipeE ev1 vs)
    (hr : restE ev1 (wipeE ev1 vs) vs = ev1) : sLg vs g (sret true) (tlLast fe) fi ev = .ok (.ml (items.map h), ev1) := by
  have k := lg_flat (vs := vs) (g := g) (tt := sret true) (tl := tlLast fe) (fun d => [h d]) hfi hn (by rw [flat_one, List.length_map]; exact hb) (fun d hd acc hl => by
    obtain ⟨e, h1, h2, h3⟩ := H d hd
    exact ⟨e, h1, .inl ⟨rfl, e, tl_last (by rw [List.length_singleton] at hl; omega) h2, h3⟩⟩) hr
  rw [flat_one] at k
  exact k
end TW


set_option linter.all false
set_option maxRecDepth 100000
set_option maxHeartbeats 1000000
namespace TW
open PySem L2
section
variable {ev : Ev}
@[simp] theorem e_andV {f g : Sm PyData} : sAndV f g ev = (match f ev with | .ok (.bool true, d) => g d | .ok (.bool false, d) => .ok (.bool false, d) | .ok _ => .no | .exc c => .exc c | .no => .no) := by
  unfold sAndV bd
  cases f ev with
  | ok p =>
    obtain ⟨r, d⟩ := p
    cases r with
    | bool b => cases b <;> rfl
    | _ => rfl
  | _ => rfl
@[simp] theorem e_chain {o1 o2 : CmpOp} {fa fb fc : Sm PyData} : sChain o1 o2 fa fb fc ev = (match fa ev with
  | .ok (d, e) => (match fb e with
    | .ok (x, e2) => (match sCmp o1 d x e2 with
      | .ok (r, e3) => (if r = true then (match fc e3 with | .ok (y, e4) => sCmp o2 x y e4 | .exc c => .exc c | .no => .no) else .ok (false, e3))
      | .exc c => .exc c | .no => .no)
    | .exc c => .exc c | .no => .no)
  | .exc c => .exc c | .no => .no) := by
  unfold sChain bd
  cases fa ev with
  | ok p =>
    obtain ⟨d, e⟩ := p
    simp only []
    cases fb e with
    | ok p =>
      obtain ⟨x, e2⟩ := p
      simp only []
      cases sCmp o1 d x e2 with
      | ok p =>
        obtain ⟨r, e3⟩ := p
        cases r <;> simp only [if_true, Bool.false_eq_true, if_false] <;> first | rfl | (cases fc e3 <;> rfl)
      | _ => rfl
    | _ => rfl
  | _ => rfl
@[simp] theorem isi_int (x : Int) : isi "int" (.int x) = true := by simp [isi, PyData.isInt]
@[simp] theorem isi_tup (x : List PyData) : isi "tuple" (.tuple x) = true := by simp [isi, PyData.isTuple]
@[simp] theorem e_tru (b : Bool) : sTru (.bool b) = sret b := (rfl)
@[simp] theorem e_lenT (x : List PyData) : sLen (.tuple x) = sret (.int x.length) := (rfl)
@[simp] theorem e_lenL (x : List PyData) : sLen (.list x) = sret (.int x.length) := (rfl)
@[simp] theorem e_itT (x : List PyData) : sItems (.tuple x) = sret x := (rfl)
@[simp] theorem e_itL (x : List PyData) : sItems (.list x) = sret x := (rfl)
end
theorem outs3 {a b c : Option M} {r : Ev} : outsOf 3 [0, 1, 2] (a :: b :: c :: r) = [a, b, c] := (rfl)
theorem is_number_ok (x lo hi : Int) : F_is_number [.fz (.int x), .fz (.int lo), .fz (.int hi)] = .ok (.fz (.bool (decide (lo ≤ x ∧ x ≤ hi))), [some (.fz (.int x)), some (.fz (.int lo)), some (.fz (.int hi))]) := by
  have key : s_is_number [some (.fz (.int x)), some (.fz (.int lo)), some (.fz (.int hi))] = .ok (.rt (.fz (.bool (decide (lo ≤ x ∧ x ≤ hi)))), [some (.fz (.int x)), some (.fz (.int lo)), some (.fz (.int hi))]) := by
    unfold s_is_number
    by_cases h : lo ≤ x
    · simp [h]
    · simp [h]
  have k2 := run_rt (N := 3) (n := 3) (pin := [0, 1, 2]) (body := s_is_number) (ms := [.fz (.int x), .fz (.int lo), .fz (.int hi)]) key
  rw [outs3] at k2
  exact k2
end TW


set_option linter.all false
set_option maxRecDepth 100000
set_option maxHeartbeats 1000000
namespace TW
open PySem L2
structure Bx (a b c : Nat) : Prop where
  ha : 1 ≤ a ∧ a ≤ 6
  hb : 1 ≤ b ∧ b ≤ 6
  hc : 1 ≤ c ∧ c ≤ 6
def trues (n : Nat) : List PyData := List.replicate n (.bool true)
theorem bools_trues : ∀ n, bools (trues n) = some (List.replicate n true)
  | 0 => rfl
  | n + 1 => by
    show (bools (trues n)).map (true :: ·) = _
    rw [bools_trues n]
    rfl
theorem frzs_map : ∀ l : List PyData, frzs (l.map .fz) = some l
  | [] => rfl
  | d :: l => by
    rw [List.map_cons, frzs, frzs_map l]
    rfl
@[simp] theorem frz_ml (l : List PyData) : frz (.ml (l.map .fz)) = some (.list l) := by
  rw [frz, frzs_map]
@[simp] theorem isi_bx (a b c : Nat) : isi "tuple" (bxD a b c) = true := (rfl)
@[simp] theorem len_bx (a b c : Nat) : sLen (bxD a b c) = sret (.int 3) := (rfl)
@[simp] theorem it_bx (a b c : Nat) : sItems (bxD a b c) = sret [.int a, .int b, .int c] := (rfl)
theorem check_box_ok {a b c : Nat} (B : Bx a b c) : F_check_box [.fz (bxD a b c)] = .ok (.fz .none, [some (.fz (bxD a b c))]) := by
  obtain ⟨ha, hb, hc⟩ := B
  have C : s_check_box_c1 [some (.fz (bxD a b c)), none] = .ok (.ml ([.bool true, .bool true, .bool true].map .fz), [some (.fz (bxD a b c)), none]) := by
    refine lg_map (items := [.int a, .int b, .int c]) (ev := [some (.fz (bxD a b c)), none]) (fun _ => .fz (.bool true)) (by simp) rfl (by simp) (fun d hd => ?_) rfl
    have hd' : ∃ n : Int, d = .int n ∧ 1 ≤ n ∧ n ≤ 6 := by
      simp only [List.mem_cons, List.not_mem_nil, or_false] at hd
      rcases hd with e | e | e
      · exact ⟨a, e, by omega⟩
      · exact ⟨b, e, by omega⟩
      · exact ⟨c, e, by omega⟩
    obtain ⟨n, rfl, h1, h2⟩ := hd'
    refine ⟨[some (.fz (bxD a b c)), some (.fz (.int n))], rfl, ?_, rfl⟩
    unfold s_check_box_e0
    simp [slotsOf, resA, putA, is_number_ok, h1, h2]
  have key : s_check_box [some (.fz (bxD a b c)), none] = .ok (.nx, [some (.fz (bxD a b c)), none]) := by
    unfold s_check_box
    have e2 : sCmp .NotEq (.int 3) (.int 3) = sret false := rfl
    simp [C, e2, frz, frzs, sAll, bools]
  have k2 := run_nx (N := 2) (n := 1) (pin := [0]) (body := s_check_box) (ms := [.fz (bxD a b c)]) key
  rw [outs1] at k2
  exact k2
end TW


set_option linter.all false
set_option maxRecDepth 100000
set_option maxHeartbeats 1000000
namespace TW
open PySem L2
/-- the places of a box, in the order of the def -/
def plK (i j : Int) (c : Nat) : List Int := (List.range c).map fun (k : Nat) => i + j + (k : Int) + 1
def plJ (i : Int) (b c : Nat) : List Int := (List.range b).flatMap fun (j : Nat) => plK i j c
def plI (a b c : Nat) : List Int := (List.range a).flatMap fun (i : Nat) => plJ i b c
theorem fm_len {α β : Type} (f : α → List β) (k : Nat) : ∀ l : List α, (∀ x ∈ l, (f x).length ≤ k) → (l.flatMap f).length ≤ l.length * k
  | [], _ => by simp
  | x :: l, h => by
    rw [List.flatMap_cons, List.length_append, List.length_cons]
    have h1 := h x (List.mem_cons_self ..)
    have h2 := fm_len f k l fun y hy => h y (List.mem_cons_of_mem _ hy)
    rw [Nat.add_mul, Nat.one_mul]
    omega
def iOf : PyData → Int
  | .int i => i
  | _ => 0
theorem rg_flat {α : Type} (n : Nat) (f : Int → List α) : (rgI 0 n).flatMap (fun d => f (iOf d)) = (List.range n).flatMap fun (i : Nat) => f i := by
  unfold rgI
  rw [List.flatMap_map]
  congr 1
  funext i
  show f (0 + (i : Int)) = f i
  rw [Int.zero_add]
theorem mem_rg {n : Nat} {d : PyData} (h : d ∈ rgI 0 n) : ∃ i : Nat, i < n ∧ d = .int i := by
  obtain ⟨j, hj⟩ := List.mem_iff_getElem?.mp h
  obtain ⟨h1, h2⟩ := rgI_at hj
  exact ⟨j, h1, by rw [h2, Int.zero_add]⟩
theorem plK_len (i j : Int) (c : Nat) : (plK i j c).length = c := by simp [plK]
theorem plJ_len (i : Int) (b c : Nat) : (plJ i b c).length ≤ b * c := by
  have := fm_len (fun (j : Nat) => plK i j c) c (List.range b) fun x _ => by rw [plK_len]; exact Nat.le_refl _
  rw [List.length_range] at this
  exact this
theorem plI_len (a b c : Nat) : (plI a b c).length ≤ a * (b * c) := by
  have := fm_len (fun (i : Nat) => plJ i b c) (b * c) (List.range a) fun x _ => plJ_len _ _ _
  rw [List.length_range] at this
  exact this
def mI (l : List Int) : List M := l.map fun i => .fz (.int i)
theorem mI_len (l : List Int) : (mI l).length = l.length := by simp [mI]
theorem mI_flat {α : Type} (f : α → List Int) : ∀ l : List α, l.flatMap (fun x => mI (f x)) = mI (l.flatMap f)
  | [] => rfl
  | x :: l => by
    rw [List.flatMap_cons, List.flatMap_cons, mI_flat f l]
    unfold mI
    rw [List.map_append]
theorem places_comp {a b c : Nat} (B : Bx a b c) : s_places_of_c1 [some (.fz (bxD a b c)), some (.fz (.int a)), some (.fz (.int b)), some (.fz (.int c)), none, none, none] =
    .ok (.ml (mI (plI a b c)), [some (.fz (bxD a b c)), some (.fz (.int a)), some (.fz (.int b)), some (.fz (.int c)), none, none, none]) := by
  obtain ⟨ha, hb, hc⟩ := B
  have hbc : b * c ≤ 36 := Nat.mul_le_mul hb.2 hc.2
  have habc : a * (b * c) ≤ 216 := Nat.mul_le_mul ha.2 hbc
  have k := lg_flat (vs := [4, 5, 6]) (g := gN 4) (tt := sret true) (tl := tlMid [5, 6] (gN 5) (sret true) (tlMid [6] (gN 6) (sret true) (tlLast s_places_of_e0) (bd (vF 3) sRg1)) (bd (vF 2) sRg1)) (fi := bd (vF 1) sRg1)
    (ev := [some (.fz (bxD a b c)), some (.fz (.int a)), some (.fz (.int b)), some (.fz (.int c)), none, none, none]) (ev1 := [some (.fz (bxD a b c)), some (.fz (.int a)), some (.fz (.int b)), some (.fz (.int c)), none, none, none]) (items := rgI 0 a)
    (fun d => mI (plJ (iOf d) b c)) (by simp [rg1n (show a ≤ 1000 by omega)]) rfl
    (by
      rw [rg_flat a (fun i => mI (plJ i b c)), mI_flat, mI_len]
      have := plI_len a b c
      unfold plI at this
      omega)
    (fun d hd acc hl => by
      obtain ⟨i, hi, rfl⟩ := mem_rg hd
      refine ⟨[some (.fz (bxD a b c)), some (.fz (.int a)), some (.fz (.int b)), some (.fz (.int c)), some (.fz (.int i)), none, none], rfl, .inl ⟨rfl, [some (.fz (bxD a b c)), some (.fz (.int a)), some (.fz (.int b)), some (.fz (.int c)), some (.fz (.int i)), none, none], ?_, rfl⟩⟩
      have k2 := tl_mid (vs := [5, 6]) (g := gN 5) (tt := sret true) (tl := tlMid [6] (gN 6) (sret true) (tlLast s_places_of_e0) (bd (vF 3) sRg1)) (fi := bd (vF 2) sRg1) (acc := acc)
        (ev := [some (.fz (bxD a b c)), some (.fz (.int a)), some (.fz (.int b)), some (.fz (.int c)), some (.fz (.int i)), none, none]) (ev1 := [some (.fz (bxD a b c)), some (.fz (.int a)), some (.fz (.int b)), some (.fz (.int c)), some (.fz (.int i)), none, none]) (items := rgI 0 b)
        (fun d => mI (plK i (iOf d) c)) (by simp [rg1n (show b ≤ 1000 by omega)])
        (by
          rw [rg_flat b (fun j => mI (plK i j c)), mI_flat, mI_len]
          have e : (mI (plJ (iOf (.int i)) b c)).length = (plJ i b c).length := mI_len _
          rw [e] at hl
          exact hl)
        (fun d hd acc hl => by
          obtain ⟨j, hj, rfl⟩ := mem_rg hd
          refine ⟨[some (.fz (bxD a b c)), some (.fz (.int a)), some (.fz (.int b)), some (.fz (.int c)), some (.fz (.int i)), some (.fz (.int j)), none], rfl, .inl ⟨rfl, [some (.fz (bxD a b c)), some (.fz (.int a)), some (.fz (.int b)), some (.fz (.int c)), some (.fz (.int i)), some (.fz (.int j)), none], ?_, rfl⟩⟩
          have k3 := tl_mid (vs := [6]) (g := gN 6) (tt := sret true) (tl := tlLast s_places_of_e0) (fi := bd (vF 3) sRg1) (acc := acc)
            (ev := [some (.fz (bxD a b c)), some (.fz (.int a)), some (.fz (.int b)), some (.fz (.int c)), some (.fz (.int i)), some (.fz (.int j)), none]) (ev1 := [some (.fz (bxD a b c)), some (.fz (.int a)), some (.fz (.int b)), some (.fz (.int c)), some (.fz (.int i)), some (.fz (.int j)), none]) (items := rgI 0 c)
            (fun d => [.fz (.int (i + j + iOf d + 1))]) (by simp [rg1n (show c ≤ 1000 by omega)])
            (by
              rw [flat_one, List.length_map, rgI_len]
              have e : (mI (plK i (iOf (.int j)) c)).length = c := by rw [mI_len, plK_len]
              rw [e] at hl
              exact hl)
            (fun d hd acc hl => by
              obtain ⟨k, hk, rfl⟩ := mem_rg hd
              refine ⟨[some (.fz (bxD a b c)), some (.fz (.int a)), some (.fz (.int b)), some (.fz (.int c)), some (.fz (.int i)), some (.fz (.int j)), some (.fz (.int k))], rfl, .inl ⟨rfl, [some (.fz (bxD a b c)), some (.fz (.int a)), some (.fz (.int b)), some (.fz (.int c)), some (.fz (.int i)), some (.fz (.int j)), some (.fz (.int k))], ?_, rfl⟩⟩
              refine tl_last (by rw [List.length_singleton] at hl; omega) ?_
              unfold s_places_of_e0
              simp [iOf])
          rw [k3]
          congr 3
          rw [rg_flat c (fun k => [M.fz (.int (i + j + k + 1))]), flat_one]
          unfold mI plK
          rw [List.map_map]
          rfl)
      rw [k2]
      congr 3
      rw [rg_flat b (fun j => mI (plK i j c)), mI_flat]
      rfl) rfl
  rw [rg_flat a (fun i => mI (plJ i b c)), mI_flat] at k
  exact k
end TW


set_option linter.all false
set_option maxRecDepth 100000
set_option maxHeartbeats 1000000
namespace TW
open PySem L2
theorem places_ok {a b c : Nat} (B : Bx a b c) : F_places_of [.fz (bxD a b c)] = .ok (.ml (mI (plI a b c)), [some (.fz (bxD a b c))]) := by
  have key : s_places_of [some (.fz (bxD a b c)), none, none, none, none, none, none] = .ok (.rt (.ml (mI (plI a b c))), [some (.fz (bxD a b c)), some (.fz (.int a)), some (.fz (.int b)), some (.fz (.int c)), none, none, none]) := by
    unfold s_places_of
    refine seq_ok (e := [some (.fz (bxD a b c)), some (.fz (.int a)), some (.fz (.int b)), some (.fz (.int c)), none, none, none]) (by simp [bxD]) ?_
    rw [e_rt, places_comp B]
  have k2 := run_rt (N := 7) (n := 1) (pin := [0]) (body := s_places_of) (ms := [.fz (bxD a b c)]) key
  rw [outs1] at k2
  exact k2
theorem frzs_mI : ∀ l : List Int, frzs (mI l) = some (l.map .int)
  | [] => rfl
  | i :: l => by
    have ih := frzs_mI l
    unfold mI at ih ⊢
    rw [List.map_cons, frzs, ih]
    rfl
@[simp] theorem frz_mI (l : List Int) : frz (.ml (mI l)) = some (.list (l.map .int)) := by rw [frz, frzs_mI]
@[simp] theorem e_par {i j : Nat} {fs : Sm (List M)} {ev : Ev} : sPar i j fs ev = (match fs ev with | .ok ([m1, m2], e) => (if i < e.length ∧ j < e.length then .ok (.nx, (e.set i (some m1)).set j (some m2)) else .no) | .ok _ => .no | .exc c => .exc c | .no => .no) := by
  unfold sPar bd
  cases fs ev with
  | ok p =>
    obtain ⟨l, e⟩ := p
    match l with
    | [] => rfl
    | [_] => rfl
    | [_, _] => rfl
    | _ :: _ :: _ :: _ => rfl
  | _ => rfl
@[simp] theorem e_consE {f : Sm M} {g : Sm (List M)} {ev : Ev} : sConsE f g ev = (match f ev with | .ok (d, e) => (match g e with | .ok (ds, e') => .ok (d :: ds, e') | .exc c => .exc c | .no => .no) | .exc c => .exc c | .no => .no) := by
  unfold sConsE bd
  cases h : f ev with
  | ok p =>
    obtain ⟨r, d⟩ := p
    simp only []
    cases g d <;> rfl
  | _ => rfl
@[simp] theorem e_nilE {ev : Ev} : sNilE ev = .ok ([], ev) := (rfl)
def mhT (l : List Int) : Int := l.foldl (fun t p => t * (p + 1)) 1
def mhL (l : List Int) : Int := l.foldl (fun t p => t * p) 1
theorem mh_body (bx : PyData) (n t l : Int) (h : -100000 < n ∧ n < 100000) : s_many_heaps_f0 [some (.fz bx), some (.fz (.int n)), some (.fz (.int t)), some (.fz (.int l))] = .ok (.nx, [some (.fz bx), some (.fz (.int n)), some (.fz (.int (t * (n + 1)))), some (.fz (.int (l * n)))]) := by
  have m1 : ∀ t, mulOk t (n + 1) := fun t => mulR (by omega) (by omega)
  have m2 : ∀ t, mulOk t n := fun t => mulR (by omega) (by omega)
  unfold s_many_heaps_f0
  simp [m1, m2]
theorem mh_loop (bx : PyData) : ∀ (l : List Int) (x : Option M) (t w : Int), (∀ n ∈ l, -100000 < n ∧ n < 100000) → ∃ x', forLoop (gN 1) s_many_heaps_f0 (l.map .int) [some (.fz bx), x, some (.fz (.int t)), some (.fz (.int w))] = .ok (.nx, [some (.fz bx), x', some (.fz (.int (l.foldl (fun t p => t * (p + 1)) t))), some (.fz (.int (l.foldl (fun t p => t * p) w)))])
  | [], x, t, w, _ => ⟨x, rfl⟩
  | n :: l, x, t, w, h => by
    obtain ⟨x', e⟩ := mh_loop bx l (some (.fz (.int n))) (t * (n + 1)) (w * n) fun m hm => h m (List.mem_cons_of_mem _ hm)
    refine ⟨x', ?_⟩
    have eb := mh_body bx n t w (h n (List.mem_cons_self ..))
    have e0 := forLoop_inv (g := gN 1) (fb := s_many_heaps_f0) (fun k ev => k = 0 ∨ ev = [some (.fz bx), some (.fz (.int n)), some (.fz (.int (t * (n + 1)))), some (.fz (.int (w * n)))]) [] 0 [] (.inl rfl) fun i d ev hi => by simp at hi
    rw [List.map_cons, forLoop]
    show (match s_many_heaps_f0 [some (.fz bx), some (.fz (.int n)), some (.fz (.int t)), some (.fz (.int w))] with | .ok (.nx, ev2) => forLoop (gN 1) s_many_heaps_f0 (l.map .int) ev2 | .ok (.ct, ev2) => forLoop (gN 1) s_many_heaps_f0 (l.map .int) ev2 | .ok (.bk, ev2) => .ok (.nx, ev2) | .ok (.rt m, ev2) => .ok (.rt m, ev2) | .exc c => .exc c | .no => .no) = _
    rw [eb]
    exact e
theorem plI_bd {a b c : Nat} (B : Bx a b c) : ∀ n ∈ plI a b c, -100000 < n ∧ n < 100000 := by
  intro n hn
  obtain ⟨i, hi, hn⟩ := List.mem_flatMap.mp hn
  obtain ⟨j, hj, hn⟩ := List.mem_flatMap.mp hn
  obtain ⟨k, hk, rfl⟩ := List.mem_map.mp hn
  have := B.ha
  have := B.hb
  have := B.hc
  rw [List.mem_range] at hi hj hk
  omega
theorem many_heaps_ok {a b c : Nat} (B : Bx a b c) (hl : 0 < mhL (plI a b c) ∧ (mhL (plI a b c)).natAbs.log2 < 9000) : F_many_heaps [.fz (bxD a b c)] = .ok (.fz (.int (mhT (plI a b c) / mhL (plI a b c))), [some (.fz (bxD a b c))]) := by
  obtain ⟨x', e⟩ := mh_loop (bxD a b c) (plI a b c) none 1 1 (plI_bd B)
  have key : s_many_heaps [some (.fz (bxD a b c)), none, none, none] = .ok (.rt (.fz (.int (mhT (plI a b c) / mhL (plI a b c)))), [some (.fz (bxD a b c)), x', some (.fz (.int (mhT (plI a b c)))), some (.fz (.int (mhL (plI a b c))))]) := by
    unfold s_many_heaps
    refine seq_ok (e := [some (.fz (bxD a b c)), none, some (.fz (.int 1)), some (.fz (.int 1))]) (by simp) ?_
    refine seq_ok (for_ok (items := (plI a b c).map .int) (e := [some (.fz (bxD a b c)), none, some (.fz (.int 1)), some (.fz (.int 1))]) (by simp [slotsOf, resA, putA, places_ok B]) e) ?_
    have h1 : (plI a b c).foldl (fun t p => t * (p + 1)) 1 = mhT (plI a b c) := rfl
    have h2 : (plI a b c).foldl (fun t p => t * p) 1 = mhL (plI a b c) := rfl
    rw [h1, h2]
    simp [hl]
  have k2 := run_rt (N := 4) (n := 1) (pin := [0]) (body := s_many_heaps) (ms := [.fz (bxD a b c)]) key
  rw [outs1] at k2
  exact k2
theorem count_heaps_ok {a b c : Nat} (B : Bx a b c) (hl : 0 < mhL (plI a b c) ∧ (mhL (plI a b c)).natAbs.log2 < 9000) : F_count_heaps [.fz (bxD a b c)] = .ok (.fz (.int (mhT (plI a b c) / mhL (plI a b c))), [some (.fz (bxD a b c))]) := by
  have key : s_count_heaps [some (.fz (bxD a b c))] = .ok (.rt (.fz (.int (mhT (plI a b c) / mhL (plI a b c)))), [some (.fz (bxD a b c))]) := by
    unfold s_count_heaps
    refine seq_ok (e := [some (.fz (bxD a b c))]) (by simp [slotsOf, resA, putA, check_box_ok B]) ?_
    simp [slotsOf, resA, putA, many_heaps_ok B hl]
  have k2 := run_rt (N := 1) (n := 1) (pin := [0]) (body := s_count_heaps) (ms := [.fz (bxD a b c)]) key
  rw [outs1] at k2
  exact k2
end TW


set_option linter.all false
set_option maxRecDepth 100000
set_option maxHeartbeats 1000000
namespace TW
open PySem L2
def chk1 (a b c : Nat) : Bool := decide (0 < mhL (plI a b c)) && decide ((mhL (plI a b c)).natAbs.log2 < 9000) && decide (0 < pi 1 b c a 1) && decide ((pi 1 b c a 1).natAbs.log2 < 9000) && decide (mhT (plI a b c) / mhL (plI a b c) = pi 0 b c a 1 / pi 1 b c a 1) && decide ((pi 0 b c a 1 / pi 1 b c a 1).natAbs < 10000000000000)
def allBx (p : Nat → Nat → Nat → Bool) : Bool := (List.range 6).all fun a => (List.range 6).all fun b => (List.range 6).all fun c => p (a + 1) (b + 1) (c + 1)
theorem allBx_at {p : Nat → Nat → Nat → Bool} (h : allBx p = true) {a b c : Nat} (B : Bx a b c) : p a b c = true := by
  have h1 := List.all_eq_true.mp h (a - 1) (List.mem_range.mpr (by have := B.ha; omega))
  have h2 := List.all_eq_true.mp h1 (b - 1) (List.mem_range.mpr (by have := B.hb; omega))
  have h3 := List.all_eq_true.mp h2 (c - 1) (List.mem_range.mpr (by have := B.hc; omega))
  rw [show a - 1 + 1 = a by have := B.ha; omega, show b - 1 + 1 = b by have := B.hb; omega, show c - 1 + 1 = c by have := B.hc; omega] at h3
  exact h3
theorem chk1_all : allBx chk1 = true := by decide +kernel
theorem count_eq {a b c : Nat} (B : Bx a b c) : ∃ n : Int, n.natAbs < 10000000000000 ∧ n = pi 0 b c a 1 / pi 1 b c a 1 ∧ F_count_heaps [.fz (bxD a b c)] = .ok (.fz (.int n), [some (.fz (bxD a b c))]) ∧ F__law_number [.fz (bxD a b c)] = .ok (.fz (.int n), [some (.fz (bxD a b c))]) := by
  have h := allBx_at chk1_all B
  unfold chk1 at h
  simp only [Bool.and_eq_true, decide_eq_true_eq] at h
  obtain ⟨⟨⟨⟨⟨h1, h2⟩, h3⟩, h4⟩, h5⟩, h6⟩ := h
  refine ⟨mhT (plI a b c) / mhL (plI a b c), by rw [h5]; exact h6, h5, count_heaps_ok B ⟨h1, h2⟩, ?_⟩
  rw [number_ok (by have := B.ha; omega) (by have := B.hb; omega) (by have := B.hc; omega) ⟨h3, h4⟩, h5]
end TW


set_option linter.all false
set_option maxRecDepth 100000
set_option maxHeartbeats 1000000
namespace TW
open PySem L2
def resInt (n : Nat) : Res (M × List (Option M)) → Option Int
  | .ok (.fz (.int i), o) => if o.length = n then some i else none
  | _ => none
theorem resInt_some {n : Nat} {r : Res (M × List (Option M))} {i : Int} (h : resInt n r = some i) : ∃ o, r = .ok (.fz (.int i), o) ∧ o.length = n := by
  match r, h with
  | .ok (.fz (.int j), o), h =>
    by_cases e : o.length = n
    · have h' : (if o.length = n then some j else none) = some i := h
      rw [if_pos e] at h'
      cases h'
      exact ⟨o, rfl, e⟩
    · have h' : (if o.length = n then some j else none) = some i := h
      rw [if_neg e] at h'
      cases h'
def sameInt (n : Nat) (r q : Res (M × List (Option M))) : Bool := match resInt n r, resInt n q with
  | some i, some j => decide (i = j) && decide (i.natAbs < 10000000000000)
  | _, _ => false
theorem sameInt_ok {n : Nat} {r q : Res (M × List (Option M))} (h : sameInt n r q = true) : ∃ i o o', i.natAbs < 10000000000000 ∧ r = .ok (.fz (.int i), o) ∧ o.length = n ∧ q = .ok (.fz (.int i), o') ∧ o'.length = n := by
  unfold sameInt at h
  cases h1 : resInt n r with
  | none => rw [h1] at h; cases h
  | some i =>
    rw [h1] at h
    cases h2 : resInt n q with
    | none => rw [h2] at h; cases h
    | some j =>
      rw [h2] at h
      have h' : (decide (i = j) && decide (i.natAbs < 10000000000000)) = true := h
      rw [Bool.and_eq_true, decide_eq_true_eq, decide_eq_true_eq] at h'
      have e : i = j := h'.1
      subst e
      obtain ⟨o, a1, a2⟩ := resInt_some h1
      obtain ⟨o', b1, b2⟩ := resInt_some h2
      exact ⟨i, o, o', h'.2, a1, a2, b1, b2⟩
def chkMir (a b c : Nat) : Bool := if a = b then sameInt 2 (F_count_alike [.fz (bxD a b c), .fz (.str "mirror")]) (F__law_alike [.fz (bxD a b c), .fz (.str "mirror")]) else true
def chkSide (a b c : Nat) : Bool := if a % 2 = 0 ∧ b % 2 = 0 ∧ c % 2 = 0 then sameInt 2 (F_count_alike [.fz (bxD a b c), .fz (.str "side")]) (F__law_alike [.fz (bxD a b c), .fz (.str "side")]) else true
theorem chkMir_all : allBx chkMir = true := by decide +kernel
theorem chkSide_all : allBx chkSide = true := by decide +kernel
theorem alike_mirror {a b c : Nat} (B : Bx a b c) (h : a = b) : ∃ i o o', i.natAbs < 10000000000000 ∧ F_count_alike [.fz (bxD a b c), .fz (.str "mirror")] = .ok (.fz (.int i), o) ∧ o.length = 2 ∧ F__law_alike [.fz (bxD a b c), .fz (.str "mirror")] = .ok (.fz (.int i), o') ∧ o'.length = 2 := by
  have k := allBx_at chkMir_all B
  unfold chkMir at k
  rw [if_pos h] at k
  exact sameInt_ok k
theorem alike_side {a b c : Nat} (B : Bx a b c) (h : a % 2 = 0 ∧ b % 2 = 0 ∧ c % 2 = 0) : ∃ i o o', i.natAbs < 10000000000000 ∧ F_count_alike [.fz (bxD a b c), .fz (.str "side")] = .ok (.fz (.int i), o) ∧ o.length = 2 ∧ F__law_alike [.fz (bxD a b c), .fz (.str "side")] = .ok (.fz (.int i), o') ∧ o'.length = 2 := by
  have k := allBx_at chkSide_all B
  unfold chkSide at k
  rw [if_pos h] at k
  exact sameInt_ok k
end TW


set_option linter.all false
set_option maxRecDepth 100000
set_option maxHeartbeats 0
namespace TW
open PySem L2
def okTrue (r : Res (M × List (Option M))) : Bool := match r with
  | .ok (.fz (.bool true), o) => decide (o.length = 1)
  | _ => false
theorem okTrue_of {r : Res (M × List (Option M))} (h : okTrue r = true) : ∃ o, r = .ok (.fz (.bool true), o) ∧ o.length = 1 := by
  unfold okTrue at h
  split at h
  · rename_i o
    exact ⟨o, rfl, of_decide_eq_true h⟩
  · cases h
def smallOk (a b c : Nat) : Bool := okTrue (F__law_small [.fz (bxD a b c)])
theorem sm1 : smallOk 2 2 2 = true := by decide +kernel
theorem sm2 : smallOk 3 2 2 = true := by decide +kernel
theorem sm3 : smallOk 1 3 4 = true := by decide +kernel
theorem sm5 : smallOk 2 2 4 = true := by decide +kernel
theorem sm6 : smallOk 2 4 2 = true := by decide +kernel
theorem sm4 : smallOk 3 3 2 = true := by decide +kernel
end TW


set_option linter.all false
set_option maxRecDepth 100000
set_option maxHeartbeats 1000000
namespace TW
open PySem L2
/-! tables -/
def tb {α : Type} (n : Nat) (f : Nat → α) : List α := (List.range n).map f
@[simp] theorem tb_len {α : Type} (n : Nat) (f : Nat → α) : (tb n f).length = n := by simp [tb]
theorem tb_get {α : Type} {n : Nat} {f : Nat → α} {i : Nat} (h : i < n) : (tb n f)[i]? = some (f i) := by simp [tb, h]
theorem tb_succ {α : Type} (n : Nat) (f : Nat → α) : tb (n + 1) f = tb n f ++ [f n] := by simp [tb, List.range_succ]
theorem tb_congr {α : Type} {n : Nat} {f g : Nat → α} (h : ∀ i, i < n → f i = g i) : tb n f = tb n g := by
  unfold tb
  exact List.map_congr_left fun i hi => h i (List.mem_range.mp hi)
theorem tb_map {α β : Type} (n : Nat) (f : Nat → α) (g : α → β) : (tb n f).map g = tb n fun i => g (f i) := by simp [tb]
theorem tb_mem {α : Type} {n : Nat} {f : Nat → α} {x : α} (h : x ∈ tb n f) : ∃ i, i < n ∧ f i = x := by
  obtain ⟨i, h1, h2⟩ := List.mem_map.mp h
  exact ⟨i, List.mem_range.mp h1, h2⟩
theorem tb_rev {α : Type} (n : Nat) (f : Nat → α) : (tb n f).reverse = tb n fun i => f (n - 1 - i) := by
  apply List.ext_getElem
  · simp
  · intro i h1 h2
    simp [tb] at h1 h2 ⊢
theorem atI_tb {α : Type} {n : Nat} {f : Nat → α} {i : Int} (h0 : 0 ≤ i) (h1 : i < n) : atI (tb n f) i = some (f i.toNat) := by
  unfold atI ixN
  rw [tb_len, if_pos h0, if_pos h1]
  exact tb_get (by omega)
theorem atI_nat {α : Type} {n : Nat} {f : Nat → α} {i : Nat} (h1 : i < n) : atI (tb n f) (i : Int) = some (f i) := by
  rw [atI_tb (by omega) (by omega)]
  rfl
theorem rgI_tb (lo : Int) (n : Nat) : rgI lo n = tb n fun i => .int (lo + i) := rfl
def rowT (b : Nat) (f : Nat → Int) : PyData := .tuple (tb b fun j => .int (f j))
def hpT (a b : Nat) (g : Nat → Nat → Int) : PyData := .tuple (tb a fun i => rowT b (g i))
theorem flats_map : ∀ l : List PyData, flats (l.map .fz) = some l
  | [] => rfl
  | d :: l => by
    show (flats (l.map .fz)).map (d :: ·) = _
    rw [flats_map l]
    rfl
@[simp] theorem flat_ml (l : List PyData) : flat (.ml (l.map .fz)) = some (.list l) := by
  show (flats (l.map .fz)).map PyData.list = _
  rw [flats_map]
  rfl
theorem min2_eq (i j : Int) : sMin2 (.int i) (.int j) = sret (.int (if j < i then j else i)) := rfl
@[simp] theorem e_sApp {i : Nat} {fe : Sm M} {ev : Ev} : sApp i fe ev = (match sMl i ev with
  | .ok (_, e) => (match fe e with
    | .ok (m, e1) => oSm .none (sMut i (kApp m) e1)
    | .exc c => .exc c
    | .no => .no)
  | .exc c => .exc c
  | .no => .no) := by
  unfold sApp bd
  cases h : sMl i ev with
  | ok p =>
    obtain ⟨_, d⟩ := p
    simp only []
    cases fe d with
    | ok p => obtain ⟨x, y⟩ := p; rfl
    | _ => rfl
  | _ => rfl
theorem eqInt (i j : Int) : sCmp .Eq (.int i) (.int j) = sret (decide (i = j)) := by
  show sopt (if min (PyData.depth (.int i)) (PyData.depth (.int j)) ≤ 60 then some (PyData.eqv (.int i) (.int j)) else none) = _
  have : PyData.eqv (.int i) (.int j) = decide (i = j) := by
    rw [PyData.eqv]
    rfl
  rw [this]
  rfl
/-- what is drawn is a heap -/
structure Heap (a b c : Nat) (g : Nat → Nat → Int) : Prop where
  lo : ∀ i j, i < a → j < b → 0 ≤ g i j
  hi : ∀ i j, i < a → j < b → g i j ≤ c
  row : ∀ i j, i < a → j + 1 < b → g i (j + 1) ≤ g i j
  col : ∀ i j, i + 1 < a → j < b → g (i + 1) j ≤ g i j
end TW


set_option linter.all false
set_option maxRecDepth 100000
set_option maxHeartbeats 1000000
namespace TW
open PySem L2
def iT (n : Nat) (f : Nat → Int) : List PyData := tb n fun j => .int (f j)
def rT (a b : Nat) (g : Nat → Nat → Int) : List PyData := tb a fun i => rowT b (g i)
def drE (s : M) (bx : PyData) (hp : List PyData) (i a b c : Nat) (row : List PyData) (j : Nat) (x : Option M) : Ev :=
  [some s, some (.fz bx), some (.ml (hp.map .fz)), some (.fz (.int i)), some (.fz (.int a)), some (.fz (.int b)), some (.fz (.int c)), some (.ml (row.map .fz)), some (.fz (.int j)), x]
theorem drawn_f0 {bx : PyData} {i a b c j : Nat} {g : Nat → Nat → Int} {f : Nat → Int} {s0 s1 : Int} {x : Option M} (hc : c ≤ 6) (hj : j < b) (hb : b ≤ 6)
    (hf : 0 < j → 0 ≤ f (j - 1) ∧ f (j - 1) ≤ c) (hg : 0 < i → 0 ≤ g (i - 1) j ∧ g (i - 1) j ≤ c) :
    ∃ (v t0 t1 : Int) (y : Option M), (0 ≤ v ∧ v ≤ c ∧ (0 < j → v ≤ f (j - 1)) ∧ (0 < i → v ≤ g (i - 1) j)) ∧
      s__law_drawn_f0 (drE (stM s0 s1) bx (rT i b g) i a b c (iT j f) j x) = .ok (.nx, drE (stM t0 t1) bx (rT i b g) i a b c (iT j f ++ [.int v]) j y) := by
  have h1 : ∃ m : Int, (0 ≤ m ∧ m ≤ c ∧ (0 < j → m = f (j - 1))) ∧ (sSet 9 (sIf (bd (vF 8) fun d => bd (sret (.int 0)) fun e => sCmp .Eq d e) (bd (vF 6) fun d => sret (.fz d)) (bd (bd (vO 7) fun d => bd (bd (vF 8) fun d => bd (sret (.int 1)) fun e => sSub d e) fun e => TW.sIx d e) fun d => sret (.fz d)))) (drE (stM s0 s1) bx (rT i b g) i a b c (iT j f) j x) = .ok (.nx, drE (stM s0 s1) bx (rT i b g) i a b c (iT j f) j (some (.fz (.int m)))) := by
    by_cases h0 : j = 0
    · subst h0
      refine ⟨c, ⟨by omega, by omega, by omega⟩, ?_⟩
      simp [drE, eqInt]
    · refine ⟨f (j - 1), ⟨(hf (by omega)).1, (hf (by omega)).2, fun _ => rfl⟩, ?_⟩
      have e : atI (iT j f) ((j : Int) - 1) = some (.int (f (j - 1))) := by
        unfold iT
        rw [atI_tb (by omega) (by omega)]
        congr 3
        omega
      have h0' : ¬ ((j : Int) = 0) := by omega
      simp [drE, eqInt, e, h0', h0]
  obtain ⟨m, ⟨m0, m1, m2⟩, e1⟩ := h1
  have h2 : ∃ m' : Int, (0 ≤ m' ∧ m' ≤ m ∧ (0 < i → m' ≤ g (i - 1) j)) ∧ (sIf (bd (vF 3) fun d => bd (sret (.int 0)) fun e => sCmp .Gt d e)
       (sSet 9 (bd (bd (vF 9) fun d => bd (bd (bd (vO 2) fun d => bd (bd (vF 3) fun d => bd (sret (.int 1)) fun e => sSub d e) fun e => TW.sIx d e) fun d => bd (vF 8) fun e => TW.sIx d e) fun e => sMin2 d e) fun d => sret (.fz d)))
       sNx) (drE (stM s0 s1) bx (rT i b g) i a b c (iT j f) j (some (.fz (.int m)))) = .ok (.nx, drE (stM s0 s1) bx (rT i b g) i a b c (iT j f) j (some (.fz (.int m')))) := by
    by_cases h0 : i = 0
    · subst h0
      refine ⟨m, ⟨m0, by omega, by omega⟩, ?_⟩
      simp [drE]
    · have q := hg (by omega)
      refine ⟨if g (i - 1) j < m then g (i - 1) j else m, ⟨by split <;> omega, by split <;> omega, fun _ => by split <;> omega⟩, ?_⟩
      have e : atI (rT i b g) ((i : Int) - 1) = some (rowT b (g (i - 1))) := by
        unfold rT
        rw [atI_tb (by omega) (by omega)]
        congr 3
        omega
      have e2 : atI (tb b fun j => PyData.int (g (i - 1) j)) (j : Int) = some (.int (g (i - 1) j)) := atI_nat hj
      have h0' : (0 : Int) < i := by omega
      simp [drE, e, rowT, e2, h0', min2_eq]
      omega
  obtain ⟨m', ⟨n0, n1, n2⟩, e2⟩ := h2
  obtain ⟨r1, t0, t1, hr1, d1⟩ := draw_ok s0 s1 (m' + 1) (by omega) (by omega)
  obtain ⟨r2, u0, u1, hr2, d2⟩ := draw_ok t0 t1 2 (by omega) (by omega)
  have r2' : r2 = 0 ∨ r2 = 1 := by omega
  refine ⟨m' - r1 * r2, u0, u1, some (.fz (.int m')), ⟨?_, ?_, ?_, ?_⟩, ?_⟩
  · rcases r2' with h | h <;> subst h <;> omega
  · rcases r2' with h | h <;> subst h <;> omega
  · intro h; have := m2 h; rcases r2' with h | h <;> subst h <;> omega
  · intro h; have := n2 h; rcases r2' with h | h <;> subst h <;> omega
  · unfold s__law_drawn_f0
    refine seq_ok e1 (seq_ok e2 ?_)
    have mo : mulOk r1 r2 := mulR (by omega) (by omega)
    have l1 : (iT j f).length < 16777216 := by unfold iT; rw [tb_len]; omega
    have q1 : stM s0 s1 = .ml [.fz (.int s0), .fz (.int s1)] := rfl
    have q2 : stM t0 t1 = .ml [.fz (.int t0), .fz (.int t1)] := rfl
    rw [q1] at d1 ⊢
    rw [q2] at d2 d1
    simp [drE, slotsOf, resA, putA, d1, d2, mo, oSm, sMut, kApp, l1]
end TW


set_option linter.all false
set_option maxRecDepth 100000
set_option maxHeartbeats 1000000
namespace TW
open PySem L2
theorem iT_snoc (n : Nat) (f : Nat → Int) (v : Int) : iT n f ++ [.int v] = iT (n + 1) (fun k => if k = n then v else f k) := by
  unfold iT
  rw [tb_succ]
  congr 1
  · exact tb_congr fun i hi => by simp [show i ≠ n by omega]
  · simp
theorem rT_snoc (n b : Nat) (g : Nat → Nat → Int) (f : Nat → Int) : rT n b g ++ [rowT b f] = rT (n + 1) b (fun k => if k = n then f else g k) := by
  unfold rT
  rw [tb_succ]
  congr 1
  · exact tb_congr fun i hi => by simp [show i ≠ n by omega]
  · simp
@[simp] theorem iT_len (n : Nat) (f : Nat → Int) : (iT n f).length = n := tb_len ..
@[simp] theorem rT_len (n b : Nat) (g : Nat → Nat → Int) : (rT n b g).length = n := tb_len ..
@[simp] theorem e_tupOfL (x : List PyData) : sTupOf (.list x) = sret (.tuple x) := rfl
/-- one row -/
theorem drawn_row {bx : PyData} {i a b c : Nat} {g : Nat → Nat → Int} {s0 s1 : Int} {y7 y8 x : Option M} (hc : c ≤ 6) (hb : b ≤ 6) (ha : i < 1000)
    (hg : 0 < i → ∀ j, j < b → 0 ≤ g (i - 1) j ∧ g (i - 1) j ≤ c) :
    ∃ (f : Nat → Int) (t0 t1 : Int) (z7 z8 z9 : Option M), (∀ j, j < b → 0 ≤ f j ∧ f j ≤ c ∧ (0 < j → f j ≤ f (j - 1)) ∧ (0 < i → f j ≤ g (i - 1) j)) ∧
      s__law_drawn_f1 [some (stM s0 s1), some (.fz bx), some (.ml ((rT i b g).map .fz)), some (.fz (.int i)), some (.fz (.int a)), some (.fz (.int b)), some (.fz (.int c)), y7, y8, x]
       = .ok (.nx, [some (stM t0 t1), some (.fz bx), some (.ml ((rT (i + 1) b (fun k => if k = i then f else g k)).map .fz)), some (.fz (.int i)), some (.fz (.int a)), some (.fz (.int b)), some (.fz (.int c)), z7, z8, z9]) := by
  have L := forRange (g := gN 8) (lo := 0) (n := b) (fb := s__law_drawn_f0)
    (fun n ev => ∃ (f : Nat → Int) (t0 t1 : Int) (x8 x9 : Option M), (∀ j, j < n → 0 ≤ f j ∧ f j ≤ c ∧ (0 < j → f j ≤ f (j - 1)) ∧ (0 < i → f j ≤ g (i - 1) j)) ∧
      ev = [some (stM t0 t1), some (.fz bx), some (.ml ((rT i b g).map .fz)), some (.fz (.int i)), some (.fz (.int a)), some (.fz (.int b)), some (.fz (.int c)), some (.ml ((iT n f).map .fz)), x8, x9])
    (ev := [some (stM s0 s1), some (.fz bx), some (.ml ((rT i b g).map .fz)), some (.fz (.int i)), some (.fz (.int a)), some (.fz (.int b)), some (.fz (.int c)), some (.ml []), y8, x])
    ⟨fun _ => 0, s0, s1, y8, x, fun j hj => by omega, rfl⟩
    fun n ev hn ⟨f, t0, t1, x8, x9, hf, e⟩ => by
      subst e
      obtain ⟨v, u0, u1, y, hv, e⟩ := drawn_f0 (bx := bx) (i := i) (a := a) (j := n) (g := g) (f := f) (s0 := t0) (s1 := t1) (x := x9) hc hn hb
        (fun h => ⟨(hf (n - 1) (by omega)).1, (hf (n - 1) (by omega)).2.1⟩) (fun h => hg h n hn)
      refine ⟨_, _, rfl, by rw [show (0 : Int) + n = n by omega]; exact e, fun k => if k = n then v else f k, u0, u1, some (.fz (.int n)), y, fun j hj => ?_, ?_⟩
      · rcases Nat.lt_succ_iff_lt_or_eq.mp hj with h | h
        · have q := hf j h
          simp only [show j ≠ n by omega, show j - 1 ≠ n by omega, if_false]
          exact q
        · subst h
          simp only [if_true]
          refine ⟨hv.1, hv.2.1, fun h => ?_, hv.2.2.2⟩
          simp only [show j - 1 ≠ j by omega, if_false]
          exact hv.2.2.1 h
      · rw [← iT_snoc]
        rfl
  obtain ⟨ev', e1, f, t0, t1, x8, x9, hf, e2⟩ := L
  subst e2
  refine ⟨f, t0, t1, some (.ml ((iT b f).map .fz)), x8, x9, hf, ?_⟩
  unfold s__law_drawn_f1
  refine seq_ok (e := [some (stM s0 s1), some (.fz bx), some (.ml ((rT i b g).map .fz)), some (.fz (.int i)), some (.fz (.int a)), some (.fz (.int b)), some (.fz (.int c)), some (.ml []), y8, x]) (by simp) ?_
  refine seq_ok (for_ok (e := [some (stM s0 s1), some (.fz bx), some (.ml ((rT i b g).map .fz)), some (.fz (.int i)), some (.fz (.int a)), some (.fz (.int b)), some (.fz (.int c)), some (.ml []), y8, x]) (items := rgI 0 b) (by simp [rg1n (show b ≤ 1000 by omega)]) e1) ?_
  have l1 : i < 16777216 := by omega
  rw [← rT_snoc]
  have q : rowT b f = .tuple (iT b f) := rfl
  rw [q]
  simp [oSm, sMut, kApp, l1]
theorem drawn_ok {a b c : Nat} (B : Bx a b c) (s0 s1 : Int) : ∃ g t0 t1, Heap a b c g ∧ F__law_drawn [stM s0 s1, .fz (bxD a b c)] = .ok (.fz (hpT a b g), [some (stM t0 t1), some (.fz (bxD a b c))]) := by
  obtain ⟨ha, hb, hc⟩ := B
  have L := forRange (g := gN 3) (lo := 0) (n := a) (fb := s__law_drawn_f1)
    (fun n ev => ∃ g t0 t1 x3 x7 x8 x9, Heap n b c g ∧
      ev = [some (stM t0 t1), some (.fz (bxD a b c)), some (.ml ((rT n b g).map .fz)), x3, some (.fz (.int a)), some (.fz (.int b)), some (.fz (.int c)), x7, x8, x9])
    (ev := [some (stM s0 s1), some (.fz (bxD a b c)), some (.ml []), none, some (.fz (.int a)), some (.fz (.int b)), some (.fz (.int c)), none, none, none])
    ⟨fun _ _ => 0, s0, s1, none, none, none, none, ⟨by intros; omega, by intros; omega, by intros; omega, by intros; omega⟩, rfl⟩
    fun n ev hn ⟨g, t0, t1, x3, x7, x8, x9, hg, e⟩ => by
      subst e
      obtain ⟨f, u0, u1, y7, y8, y9, hf, e⟩ := drawn_row (bx := bxD a b c) (i := n) (a := a) (b := b) (c := c) (g := g) (s0 := t0) (s1 := t1) (y7 := x7) (y8 := x8) (x := x9) hc.2 hb.2 (by omega)
        fun h j hj => ⟨hg.lo _ _ (by omega) hj, hg.hi _ _ (by omega) hj⟩
      refine ⟨_, _, rfl, by rw [show (0 : Int) + n = n by omega]; exact e, fun k => if k = n then f else g k, u0, u1, some (.fz (.int n)), y7, y8, y9, ⟨?_, ?_, ?_, ?_⟩, rfl⟩
      · intro i j hi hj
        by_cases h : i = n
        · simp only [h, if_true]; exact (hf j hj).1
        · simp only [h, if_false]; exact hg.lo i j (by omega) hj
      · intro i j hi hj
        by_cases h : i = n
        · simp only [h, if_true]; exact (hf j hj).2.1
        · simp only [h, if_false]; exact hg.hi i j (by omega) hj
      · intro i j hi hj
        by_cases h : i = n
        · simp only [h, if_true]; exact (hf (j + 1) hj).2.2.1 (by omega)
        · simp only [h, if_false]; exact hg.row i j (by omega) hj
      · intro i j hi hj
        by_cases h : i + 1 = n
        · subst h
          simp only [if_true, show i ≠ i + 1 by omega, if_false]
          exact (hf j hj).2.2.2 (by omega)
        · simp only [h, if_false, show i ≠ n by omega]; exact hg.col i j (by omega) hj
  obtain ⟨ev', e1, g, t0, t1, x3, x7, x8, x9, hg, e2⟩ := L
  subst e2
  refine ⟨g, t0, t1, hg, ?_⟩
  have key : s__law_drawn [some (stM s0 s1), some (.fz (bxD a b c)), none, none, none, none, none, none, none, none] = .ok (.rt (.fz (hpT a b g)), [some (stM t0 t1), some (.fz (bxD a b c)), some (.ml ((rT a b g).map .fz)), x3, some (.fz (.int a)), some (.fz (.int b)), some (.fz (.int c)), x7, x8, x9]) := by
    unfold s__law_drawn
    refine seq_ok (e := [some (stM s0 s1), some (.fz (bxD a b c)), none, none, some (.fz (.int a)), some (.fz (.int b)), some (.fz (.int c)), none, none, none]) (by simp [bxD]) ?_
    refine seq_ok (e := [some (stM s0 s1), some (.fz (bxD a b c)), some (.ml []), none, some (.fz (.int a)), some (.fz (.int b)), some (.fz (.int c)), none, none, none]) (by simp) ?_
    refine seq_ok (for_ok (e := [some (stM s0 s1), some (.fz (bxD a b c)), some (.ml []), none, some (.fz (.int a)), some (.fz (.int b)), some (.fz (.int c)), none, none, none]) (items := rgI 0 a) (by simp [rg1n (show a ≤ 1000 by omega)]) e1) ?_
    simp
    rfl
  have k2 := run_rt (N := 10) (n := 2) (pin := [0, 1]) (body := s__law_drawn) (ms := [stM s0 s1, .fz (bxD a b c)]) key
  rw [outs2] at k2
  exact k2
end TW


set_option linter.all false
set_option maxRecDepth 100000
set_option maxHeartbeats 1000000
namespace TW
open PySem L2
section
variable {α : Type} {F : α → PyData}
theorem loop_flatA {vs : List Nat} {g : PyData → Ev → Option Ev} {tt : Sm Bool} {tl : TLs (List M)} {base : Ev} {out : α → List M} : ∀ (items : List α) (acc : List M), acc.length + (items.flatMap out).length ≤ 1000000 →
    (∀ d ∈ items, ∀ acc : List M, acc.length + (out d).length ≤ 1000000 → ∃ e, g (F d) base = some e ∧ ((tt e = .ok (true, e) ∧ ∃ e2, tl acc e = some (acc ++ out d, e2) ∧ wipeE e2 vs = base) ∨ (tt e = .ok (false, e) ∧ out d = [] ∧ wipeE e vs = base))) →
    loopG vs g tt tl (items.map F) acc base = some (acc ++ items.flatMap out, base)
  | [], acc, _, _ => by simp [loopG]
  | d :: ds, acc, hl, H => by
    rw [List.flatMap_cons, List.length_append] at hl
    obtain ⟨e, h1, h2⟩ := H d (List.mem_cons_self ..) acc (by omega)
    have ih := fun a hl => loop_flatA ds a hl fun x hx => H x (List.mem_cons_of_mem _ hx)
    rw [List.map_cons, loop_cons h1]
    rcases h2 with ⟨h3, e2, h4, h5⟩ | ⟨h3, h4, h5⟩
    · rw [h3]
      simp only []
      rw [h4]
      simp only []
      rw [h5, ih _ (by rw [List.length_append]; omega), List.flatMap_cons, List.append_assoc]
    · rw [h3]
      simp only []
      rw [h5, ih _ (by omega), List.flatMap_cons, h4, List.nil_append]
theorem lg_flatA {vs : List Nat} {g : PyData → Ev → Option Ev} {tt : Sm Bool} {tl : TLs (List M)} {fi : Sm (List PyData)} {ev ev1 : Ev} {items : List α} (out : α → List M) (hfi : fi ev = .ok (items.map F, ev1)) (hn : vs.all (fun v => notMl ev1[v]?) = true)
    (hb : (items.flatMap out).length ≤ 1000000)
    (H : ∀ d ∈ items, ∀ acc : List M, acc.length + (out d).length ≤ 1000000 → ∃ e, g (F d) (wipeE ev1 vs) = some e ∧ ((tt e = .ok (true, e) ∧ ∃ e2, tl acc e = some (acc ++ out d, e2) ∧ wipeE e2 vs = wipeE ev1 vs) ∨ (tt e = .ok (false, e) ∧ out d = [] ∧ wipeE e vs = wipeE ev1 vs)))
    (hr : restE ev1 (wipeE ev1 vs) vs = ev1) : sLg vs g tt tl fi ev = .ok (.ml (items.flatMap out), ev1) := by
  unfold sLg
  rw [e_bd, hfi]
  show sLgT vs g tt tl (items.map F) ev1 = _
  unfold sLgT
  rw [if_pos hn, loop_flatA items [] (by simpa using hb) H]
  show Res.ok (M.ml ([] ++ items.flatMap out), restE ev1 (wipeE ev1 vs) vs) = _
  rw [hr, List.nil_append]
/-- [fe for x in items if tt] -/
theorem lg_fil {vs : List Nat} {g : PyData → Ev → Option Ev} {tt : Sm Bool} {fe : Sm M} {fi : Sm (List PyData)} {ev ev1 : Ev} {items : List α} (p : α → Bool) (h : α → PyData) (hfi : fi ev = .ok (items.map F, ev1)) (hn : vs.all (fun v => notMl ev1[v]?) = true) (hb : items.length ≤ 1000000)
    (H : ∀ d ∈ items, ∃ e, g (F d) (wipeE ev1 vs) = some e ∧ tt e = .ok (p d, e) ∧ (p d = true → fe e = .ok (.fz (h d), e)) ∧ wipeE e vs = wipeE ev1 vs)
    (hr : restE ev1 (wipeE ev1 vs) vs = ev1) : sLg vs g tt (tlLast fe) fi ev = .ok (.ml (((items.filter p).map h).map .fz), ev1) := by
  have e : items.flatMap (fun d => if p d = true then [M.fz (h d)] else []) = ((items.filter p).map h).map .fz := by
    clear hb H hfi
    induction items with
    | nil => rfl
    | cons a l ih =>
      rw [List.flatMap_cons, ih]
      by_cases q : p a = true
      · simp [q]
      · simp [q]
  have k := lg_flatA (vs := vs) (g := g) (tt := tt) (tl := tlLast fe) (F := F) (fun d => if p d = true then [M.fz (h d)] else []) hfi hn (by
      rw [e, List.length_map, List.length_map]
      exact Nat.le_trans (List.length_filter_le ..) hb) (fun d hd acc hl => by
    obtain ⟨e, h1, h2, h3, h4⟩ := H d hd
    refine ⟨e, h1, ?_⟩
    by_cases q : p d = true
    · rw [if_pos q] at hl ⊢
      rw [q] at h2
      exact .inl ⟨h2, e, tl_last (by rw [List.length_singleton] at hl; omega) (h3 q), h4⟩
    · rw [if_neg q]
      rw [Bool.not_eq_true] at q
      rw [q] at h2
      exact .inr ⟨h2, rfl, h4⟩) hr
  rw [e] at k
  exact k
/-- [fe for x in items] -/
theorem lg_ls {vs : List Nat} {g : PyData → Ev → Option Ev} {fe : Sm M} {fi : Sm (List PyData)} {ev ev1 : Ev} {items : List α} (h : α → PyData) (hfi : fi ev = .ok (items.map F, ev1)) (hn : vs.all (fun v => notMl ev1[v]?) = true) (hb : items.length ≤ 1000000)
    (H : ∀ d ∈ items, ∃ e, g (F d) (wipeE ev1 vs) = some e ∧ fe e = .ok (.fz (h d), e) ∧ wipeE e vs = wipeE ev1 vs)
    (hr : restE ev1 (wipeE ev1 vs) vs = ev1) : sLg vs g (sret true) (tlLast fe) fi ev = .ok (.ml ((items.map h).map .fz), ev1) := by
  have k := lg_fil (vs := vs) (g := g) (tt := sret true) (fe := fe) (F := F) (fun _ => true) h hfi hn hb (fun d hd => by
    obtain ⟨e, h1, h2, h3⟩ := H d hd
    exact ⟨e, h1, rfl, fun _ => h2, h3⟩) hr
  have e : items.filter (fun _ => true) = items := List.filter_eq_self.mpr fun _ _ => rfl
  rw [e] at k
  exact k
end
theorem lg_tb {vs : List Nat} {g : PyData → Ev → Option Ev} {fe : Sm M} {fi : Sm (List PyData)} {ev ev1 : Ev} {n : Nat} {F : Nat → PyData} (h : Nat → PyData) (hfi : fi ev = .ok (tb n F, ev1)) (hn : vs.all (fun v => notMl ev1[v]?) = true) (hb : n ≤ 1000000)
    (H : ∀ i, i < n → ∃ e, g (F i) (wipeE ev1 vs) = some e ∧ fe e = .ok (.fz (h i), e) ∧ wipeE e vs = wipeE ev1 vs)
    (hr : restE ev1 (wipeE ev1 vs) vs = ev1) : sLg vs g (sret true) (tlLast fe) fi ev = .ok (.ml ((tb n h).map .fz), ev1) :=
  lg_ls (items := List.range n) h hfi hn (by rw [List.length_range]; exact hb) (fun d hd => H d (List.mem_range.mp hd)) hr
theorem bools_map {α : Type} (h : α → Bool) : ∀ l : List α, bools (l.map fun d => PyData.bool (h d)) = some (l.map h)
  | [] => rfl
  | a :: l => by
    show (bools (l.map fun d => PyData.bool (h d))).map (h a :: ·) = _
    rw [bools_map h l]
    rfl
theorem sAll_map {α : Type} (h : α → Bool) (l : List α) : sAll (.list (l.map fun d => PyData.bool (h d))) = sret (.bool (l.all h)) := by
  show bd (sopt (bools _)) _ = _
  rw [bools_map]
  show sret (PyData.bool ((l.map h).all id)) = _
  rw [List.all_map]
  rfl
theorem sAny_map {α : Type} (h : α → Bool) (l : List α) : sAny (.list (l.map fun d => PyData.bool (h d))) = sret (.bool (l.any h)) := by
  show bd (sopt (bools _)) _ = _
  rw [bools_map]
  show sret (PyData.bool ((l.map h).any id)) = _
  rw [List.any_map]
  rfl
theorem sAll_tb (n : Nat) (h : Nat → Bool) : sAll (.list (tb n fun d => PyData.bool (h d))) = sret (.bool ((List.range n).all h)) := sAll_map h _
theorem sAny_tb (n : Nat) (h : Nat → Bool) : sAny (.list (tb n fun d => PyData.bool (h d))) = sret (.bool ((List.range n).any h)) := sAny_map h _
theorem all_rng {n : Nat} {h : Nat → Bool} (k : ∀ i, i < n → h i = true) : (List.range n).all h = true := List.all_eq_true.mpr fun i hi => k i (List.mem_range.mp hi)
theorem any_rngF {n : Nat} {h : Nat → Bool} (k : ∀ i, i < n → h i = false) : (List.range n).any h = false := by
  rw [← Bool.not_eq_true]
  intro e
  obtain ⟨i, h1, h2⟩ := List.any_eq_true.mp e
  rw [k i (List.mem_range.mp h1)] at h2
  cases h2
end TW


set_option linter.all false
set_option maxRecDepth 100000
set_option maxHeartbeats 1000000
namespace TW
open PySem L2
@[simp] theorem wipe_nil (ev : Ev) : wipeE ev [] = ev := rfl
@[simp] theorem wipe_cons (ev : Ev) (v : Nat) (vs : List Nat) : wipeE ev (v :: vs) = (wipeE ev vs).set v none := rfl
theorem rT_tb (a b : Nat) (g : Nat → Nat → Int) : rT a b g = tb a fun i => rowT b (g i) := rfl
theorem hpT_eq (a b : Nat) (g : Nat → Nat → Int) : hpT a b g = .tuple (rT a b g) := rfl
theorem rowT_eq (b : Nat) (f : Nat → Int) : rowT b f = .tuple (iT b f) := rfl
@[simp] theorem isi_rowT (b : Nat) (f : Nat → Int) : isi "tuple" (rowT b f) = true := isi_tup _
@[simp] theorem isi_hpT (a b : Nat) (g : Nat → Nat → Int) : isi "tuple" (hpT a b g) = true := isi_tup _
@[simp] theorem len_rowT (b : Nat) (f : Nat → Int) : sLen (rowT b f) = sret (.int b) := by rw [rowT_eq, e_lenT, iT_len]
@[simp] theorem len_hpT (a b : Nat) (g : Nat → Nat → Int) : sLen (hpT a b g) = sret (.int a) := by rw [hpT_eq, e_lenT, rT_len]
@[simp] theorem it_rowT (b : Nat) (f : Nat → Int) : sItems (rowT b f) = sret (iT b f) := rfl
@[simp] theorem it_hpT (a b : Nat) (g : Nat → Nat → Int) : sItems (hpT a b g) = sret (rT a b g) := rfl
@[simp] theorem lst_hpT (a b : Nat) (g : Nat → Nat → Int) : sLstOf (hpT a b g) = sret (.ml ((rT a b g).map .fz)) := rfl
@[simp] theorem ix_rowT (b : Nat) (f : Nat → Int) (i : Int) : TW.sIx (rowT b f) (.int i) = sopt (atI (iT b f) i) := rfl
@[simp] theorem ix_hpT (a b : Nat) (g : Nat → Nat → Int) (i : Int) : TW.sIx (hpT a b g) (.int i) = sopt (atI (rT a b g) i) := rfl
theorem tups_rT (a b : Nat) (g : Nat → Nat → Int) : tupsOf (rT a b g) = some (tb a fun i => iT b (g i)) := by
  unfold rT tb
  have : ∀ l : List Nat, tupsOf (l.map fun i => rowT b (g i)) = some (l.map fun i => iT b (g i)) := by
    intro l
    induction l with
    | nil => rfl
    | cons x l ih =>
      show (tupsOf (l.map fun i => rowT b (g i))).map (iT b (g x) :: ·) = _
      rw [ih]
      rfl
  exact this _
theorem cols_rT {a b : Nat} {g : Nat → Nat → Int} : colsOf b (tb a fun i => iT b (g i)) = rT b a fun j i => g i j := by
  unfold colsOf
  show tb b _ = _
  unfold rT
  refine tb_congr fun j hj => ?_
  rw [rowT_eq]
  congr 1
  unfold iT
  rw [tb_map]
  refine tb_congr fun i hi => ?_
  rw [List.getD_eq_getElem?_getD, tb_get hj]
  rfl
theorem zip_rT {a b : Nat} {g : Nat → Nat → Int} (ha : 1 ≤ a ∧ a ≤ 6) (hb : 1 ≤ b) : sZipT (hpT a b g) = sret (.ml ((rT b a fun j i => g i j).map .fz)) := by
  show zipT (tupsOf (rT a b g)) = _
  rw [tups_rT]
  obtain ⟨n, rfl⟩ : ∃ n, a = n + 1 := ⟨a - 1, by omega⟩
  have e : (tb (n + 1) fun i => iT b (g i)) = iT b (g 0) :: tb n fun i => iT b (g (i + 1)) := by
    unfold tb
    rw [List.range_succ_eq_map, List.map_cons, List.map_map]
    rfl
  have z : zipOk (tb (n + 1) fun i => iT b (g i)) = true := by
    rw [e]
    show (decide (0 < (iT b (g 0)).length ∧ (tb n fun i => iT b (g (i + 1))).length ≤ 5) && (tb n fun i => iT b (g (i + 1))).all fun x => x.length == (iT b (g 0)).length) = true
    rw [Bool.and_eq_true]
    refine ⟨by simp; omega, List.all_eq_true.mpr fun x hx => ?_⟩
    obtain ⟨i, _, rfl⟩ := tb_mem hx
    simp
  show (if zipOk (tb (n + 1) fun i => iT b (g i)) = true then _ else _) = _
  rw [if_pos z]
  have hd : ((tb (n + 1) fun i => iT b (g i)).headD []).length = b := by
    rw [e]
    simp
  rw [hd, cols_rT]
/-- a line that falls -/
def Falls (n : Nat) (f : Nat → Int) : Prop := ∀ j, j + 1 < n → f (j + 1) ≤ f j
theorem ch_line {v0 v1 v2 v3 v4 v5 v6 v9 : Option M} {n : Nat} {f : Nat → Int} (hn : 1 ≤ n ∧ n ≤ 1000) (h : Falls n f) :
    s_check_heap_e5 [v0, v1, v2, v3, v4, v5, v6, some (.fz (rowT n f)), none, v9] = .ok (.fz (.bool false), [v0, v1, v2, v3, v4, v5, v6, some (.fz (rowT n f)), none, v9]) := by
  have C : s_check_heap_c4 [v0, v1, v2, v3, v4, v5, v6, some (.fz (rowT n f)), none, v9] = .ok (.ml ((tb (n - 1) fun j => PyData.bool (decide (f j < f (j + 1)))).map .fz), [v0, v1, v2, v3, v4, v5, v6, some (.fz (rowT n f)), none, v9]) := by
    refine lg_tb (F := fun j => .int (0 + (j : Int))) (ev1 := [v0, v1, v2, v3, v4, v5, v6, some (.fz (rowT n f)), none, v9]) _ ?_ rfl (by omega) (fun i hi => ?_) rfl
    · have e : ((n : Int) - 1) = ((n - 1 : Nat) : Int) := by omega
      simp [e, rg1n (show n - 1 ≤ 1000 by omega), rgI_tb]
    · refine ⟨_, rfl, ?_, rfl⟩
      have e1 : atI (iT n f) (0 + (i : Int)) = some (.int (f i)) := by
        rw [Int.zero_add]; exact atI_nat (by omega)
      have e2 : atI (iT n f) ((i : Int) + 1) = some (.int (f (i + 1))) := atI_nat (i := i + 1) (by omega)
      rw [Int.zero_add] at e1
      unfold s_check_heap_e3
      simp [e1, e2]
  unfold s_check_heap_e5
  have q : (List.range (n - 1)).any (fun j => decide (f j < f (j + 1))) = false := any_rngF fun i hi => by
    have := h i (by omega)
    simp
    omega
  simp [C, sAny_tb, q]
theorem ch_row {v0 v1 v3 v4 v7 v8 : Option M} {b c : Nat} {f : Nat → Int} (hb : b ≤ 1000) (h : ∀ j, j < b → 0 ≤ f j ∧ f j ≤ c) :
    s_check_heap_f2 [v0, v1, some (.fz (rowT b f)), v3, v4, some (.fz (.int b)), some (.fz (.int c)), v7, v8, none] = .ok (.nx, [v0, v1, some (.fz (rowT b f)), v3, v4, some (.fz (.int b)), some (.fz (.int c)), v7, v8, none]) := by
  have C : s_check_heap_c1 [v0, v1, some (.fz (rowT b f)), v3, v4, some (.fz (.int b)), some (.fz (.int c)), v7, v8, none] = .ok (.ml ((tb b fun j => PyData.bool true).map .fz), [v0, v1, some (.fz (rowT b f)), v3, v4, some (.fz (.int b)), some (.fz (.int c)), v7, v8, none]) := by
    refine lg_tb (F := fun j => .int (f j)) (ev1 := [v0, v1, some (.fz (rowT b f)), v3, v4, some (.fz (.int b)), some (.fz (.int c)), v7, v8, none]) _ (by simp; rfl) rfl (by omega) (fun i hi => ⟨_, rfl, ?_, rfl⟩) rfl
    unfold s_check_heap_e0
    have q := h i hi
    simp [slotsOf, resA, putA, is_number_ok, q]
  unfold s_check_heap_f2
  have q : (List.range b).all (fun j => true) = true := all_rng fun i hi => rfl
  have e2 : sCmp .NotEq (.int b) (.int b) = sret false := by
    show sopt (if min (PyData.depth (.int b)) (PyData.depth (.int b)) ≤ 60 then some (!PyData.eqv (.int b) (.int b)) else none) = _
    rw [PyData.eqv]
    simp [PyData.depth]
  have T := sAll_tb b fun _ => true
  rw [q] at T
  simp [C, T, e2]
theorem neInt (i j : Int) : sCmp .NotEq (.int i) (.int j) = sret (!decide (i = j)) := by
  show sopt (if min (PyData.depth (.int i)) (PyData.depth (.int j)) ≤ 60 then some (!PyData.eqv (.int i) (.int j)) else none) = _
  have : PyData.eqv (.int i) (.int j) = decide (i = j) := by
    rw [PyData.eqv]
    rfl
  rw [this]
  rfl
@[simp] theorem e_lstOfT (x : List PyData) : sLstOf (.tuple x) = sret (.ml (x.map .fz)) := rfl
@[simp] theorem e_lstOfL (x : List PyData) : sLstOf (.list x) = sret (.ml (x.map .fz)) := rfl
theorem e_addL (x y : List PyData) : sAdd (.list x) (.list y) = if x.length + y.length ≤ 16777216 then sret (.ml ((x ++ y).map .fz)) else sfail := rfl
theorem e_addT (x y : List PyData) : sAdd (.tuple x) (.tuple y) = if x.length + y.length ≤ 16777216 then sret (.fz (.tuple (x ++ y))) else sfail := rfl
/-- a loop over a table -/
theorem forTb {g : PyData → Ev → Option Ev} {fb : Sm Fl} {n : Nat} {F : Nat → PyData} (I : Nat → Ev → Prop) {ev : Ev} (h0 : I 0 ev)
    (h : ∀ i ev, i < n → I i ev → ∃ ev1 ev2, g (F i) ev = some ev1 ∧ fb ev1 = .ok (.nx, ev2) ∧ I (i + 1) ev2) : ∃ ev', forLoop g fb (tb n F) ev = .ok (.nx, ev') ∧ I n ev' := by
  have := forLoop_inv I (tb n F) 0 ev h0 fun i d ev hd hI => by
    have hi : i < n := by
      have := (List.getElem?_eq_some_iff.mp hd).1
      rwa [tb_len] at this
    rw [tb_get hi] at hd
    cases hd
    rw [Nat.zero_add] at hI ⊢
    exact h i ev hi hI
  rwa [tb_len, Nat.zero_add] at this
theorem check_heap_ok {a b c : Nat} {g : Nat → Nat → Int} (B : Bx a b c) (hg : Heap a b c g) : F_check_heap [.fz (bxD a b c), .fz (hpT a b g)] = .ok (.fz .none, [some (.fz (bxD a b c)), some (.fz (hpT a b g))]) := by
  have B' := B
  obtain ⟨ha, hb, hc⟩ := B'
  have L := forTb (g := gN 2) (n := a) (F := fun i => rowT b (g i)) (fb := s_check_heap_f2) (fun _ ev => ∃ x2, ev = [some (.fz (bxD a b c)), some (.fz (hpT a b g)), x2, none, some (.fz (.int a)), some (.fz (.int b)), some (.fz (.int c)), none, none, none])
    (ev := [some (.fz (bxD a b c)), some (.fz (hpT a b g)), none, none, some (.fz (.int a)), some (.fz (.int b)), some (.fz (.int c)), none, none, none]) ⟨none, rfl⟩ fun i ev hi ⟨x2, e⟩ => by
      subst e
      exact ⟨_, _, rfl, ch_row (by omega) fun j hj => ⟨hg.lo i j hi hj, hg.hi i j hi hj⟩, _, rfl⟩
  obtain ⟨ev', e1, x2, e2⟩ := L
  subst e2
  have C : s_check_heap_c6 [some (.fz (bxD a b c)), some (.fz (hpT a b g)), x2, some (.ml ((rT a b g ++ rT b a fun j i => g i j).map .fz)), some (.fz (.int a)), some (.fz (.int b)), some (.fz (.int c)), none, none, none]
     = .ok (.ml (((rT a b g ++ rT b a fun j i => g i j).map fun _ => PyData.bool false).map .fz), [some (.fz (bxD a b c)), some (.fz (hpT a b g)), x2, some (.fz (.list (rT a b g ++ rT b a fun j i => g i j))), some (.fz (.int a)), some (.fz (.int b)), some (.fz (.int c)), none, none, none]) := by
    refine lg_ls (F := id) (items := rT a b g ++ rT b a fun j i => g i j) (ev1 := [some (.fz (bxD a b c)), some (.fz (hpT a b g)), x2, some (.fz (.list (rT a b g ++ rT b a fun j i => g i j))), some (.fz (.int a)), some (.fz (.int b)), some (.fz (.int c)), none, none, none]) _ (by rw [List.map_id]; simp [-List.map_append, frzs_map]) rfl (by simp; omega) (fun d hd => ?_) rfl
    have hd' : ∃ n f, d = rowT n f ∧ (1 ≤ n ∧ n ≤ 1000) ∧ Falls n f := by
      rcases List.mem_append.mp hd with h | h
      · obtain ⟨i, hi, rfl⟩ := tb_mem h
        exact ⟨b, g i, rfl, ⟨by omega, by omega⟩, fun j hj => hg.row i j hi hj⟩
      · obtain ⟨j, hj, rfl⟩ := tb_mem h
        exact ⟨a, fun i => g i j, rfl, ⟨by omega, by omega⟩, fun i hi => hg.col i j hi hj⟩
    obtain ⟨n, f, rfl, h1, h2⟩ := hd'
    exact ⟨_, rfl, ch_line h1 h2, rfl⟩
  have T := sAny_map (fun _ : PyData => false) (rT a b g ++ rT b a fun j i => g i j)
  have q : (rT a b g ++ rT b a fun j i => g i j).any (fun _ => false) = false := by simp
  rw [q] at T
  have key : s_check_heap [some (.fz (bxD a b c)), some (.fz (hpT a b g)), none, none, none, none, none, none, none, none] = .ok (.nx, [some (.fz (bxD a b c)), some (.fz (hpT a b g)), x2, some (.fz (.list (rT a b g ++ rT b a fun j i => g i j))), some (.fz (.int a)), some (.fz (.int b)), some (.fz (.int c)), none, none, none]) := by
    unfold s_check_heap
    refine seq_ok (e := [some (.fz (bxD a b c)), some (.fz (hpT a b g)), none, none, none, none, none, none, none, none]) (by simp [slotsOf, resA, putA, check_box_ok B]) ?_
    refine seq_ok (e := [some (.fz (bxD a b c)), some (.fz (hpT a b g)), none, none, some (.fz (.int a)), some (.fz (.int b)), some (.fz (.int c)), none, none, none]) (by simp [bxD]) ?_
    refine seq_ok (e := [some (.fz (bxD a b c)), some (.fz (hpT a b g)), none, none, some (.fz (.int a)), some (.fz (.int b)), some (.fz (.int c)), none, none, none]) (by simp [neInt]) ?_
    refine seq_ok (for_ok (e := [some (.fz (bxD a b c)), some (.fz (hpT a b g)), none, none, some (.fz (.int a)), some (.fz (.int b)), some (.fz (.int c)), none, none, none]) (items := rT a b g) (by simp) e1) ?_
    refine seq_ok (e := [some (.fz (bxD a b c)), some (.fz (hpT a b g)), x2, some (.ml ((rT a b g ++ rT b a fun j i => g i j).map .fz)), some (.fz (.int a)), some (.fz (.int b)), some (.fz (.int c)), none, none, none]) ?_ ?_
    · have z := zip_rT (g := g) ha hb.1
      have hl : a + b ≤ 16777216 := by omega
      simp [-List.map_append, z, e_addL, hl]
    · simp [-List.map_append, -List.map_map, C, T]
  have k2 := run_nx (N := 10) (n := 2) (pin := [0, 1]) (body := s_check_heap) (ms := [.fz (bxD a b c), .fz (hpT a b g)]) key
  rw [outs2] at k2
  exact k2
end TW


set_option linter.all false
set_option maxRecDepth 100000
set_option maxHeartbeats 1000000
namespace TW
open PySem L2
theorem iT_at {n : Nat} {f : Nat → Int} {i : Nat} (h : i < n) : atI (iT n f) (i : Int) = some (.int (f i)) := atI_nat h
theorem rT_at {a b : Nat} {g : Nat → Nat → Int} {i : Nat} (h : i < a) : atI (rT a b g) (i : Int) = some (rowT b (g i)) := atI_nat h
theorem iT_rev (n : Nat) (f : Nat → Int) : (iT n f).reverse = iT n fun j => f (n - 1 - j) := tb_rev ..
theorem rT_rev (n b : Nat) (g : Nat → Nat → Int) : (rT n b g).reverse = rT n b fun i => g (n - 1 - i) := tb_rev ..
@[simp] theorem rev_rowT (b : Nat) (f : Nat → Int) : sRev (rowT b f) = sret (.fz (rowT b fun j => f (b - 1 - j))) := by
  show sret (M.fz (.tuple (iT b f).reverse)) = _
  rw [iT_rev]
  rfl
@[simp] theorem rev_hpT (a b : Nat) (g : Nat → Nat → Int) : sRev (hpT a b g) = sret (.fz (hpT a b fun i => g (a - 1 - i))) := by
  show sret (M.fz (.tuple (rT a b g).reverse)) = _
  rw [rT_rev]
  rfl
theorem mirror_ok {a b c : Nat} {g : Nat → Nat → Int} (B : Bx a b c) (hg : Heap a b c g) : F_mirror [.fz (bxD a b c), .fz (hpT a b g)] = .ok (.fz (.tuple [bxD b a c, hpT b a fun j i => g i j]), [some (.fz (bxD a b c)), some (.fz (hpT a b g))]) := by
  have B' := B
  obtain ⟨ha, hb, hc⟩ := B'
  have C : s_mirror_c3 [some (.fz (bxD a b c)), some (.fz (hpT a b g)), some (.fz (.int a)), some (.fz (.int b)), some (.fz (.int c)), none, none] = .ok (.ml ((tb b fun j => rowT a fun i => g i j).map .fz), [some (.fz (bxD a b c)), some (.fz (hpT a b g)), some (.fz (.int a)), some (.fz (.int b)), some (.fz (.int c)), none, none]) := by
    refine lg_tb (F := fun j => .int (0 + (j : Int))) (ev1 := [some (.fz (bxD a b c)), some (.fz (hpT a b g)), some (.fz (.int a)), some (.fz (.int b)), some (.fz (.int c)), none, none]) _ (by simp [rg1n (show b ≤ 1000 by omega), rgI_tb]) rfl (by omega) (fun j hj => ⟨_, rfl, ?_, rfl⟩) rfl
    have D : s_mirror_c1 [some (.fz (bxD a b c)), some (.fz (hpT a b g)), some (.fz (.int a)), some (.fz (.int b)), some (.fz (.int c)), some (.fz (.int j)), none] = .ok (.ml ((tb a fun i => .int (g i j)).map .fz), [some (.fz (bxD a b c)), some (.fz (hpT a b g)), some (.fz (.int a)), some (.fz (.int b)), some (.fz (.int c)), some (.fz (.int j)), none]) := by
      refine lg_tb (F := fun i => rowT b (g i)) (ev1 := [some (.fz (bxD a b c)), some (.fz (hpT a b g)), some (.fz (.int a)), some (.fz (.int b)), some (.fz (.int c)), some (.fz (.int j)), none]) _ (by simp; rfl) rfl (by omega) (fun i hi => ⟨_, rfl, ?_, rfl⟩) rfl
      unfold s_mirror_e0
      simp [iT_at hj]
    unfold s_mirror_e2
    simp [D]
    rfl
  have key : s_mirror [some (.fz (bxD a b c)), some (.fz (hpT a b g)), none, none, none, none, none] = .ok (.rt (.fz (.tuple [bxD b a c, hpT b a fun j i => g i j])), [some (.fz (bxD a b c)), some (.fz (hpT a b g)), some (.fz (.int a)), some (.fz (.int b)), some (.fz (.int c)), none, none]) := by
    unfold s_mirror
    refine seq_ok (e := [some (.fz (bxD a b c)), some (.fz (hpT a b g)), none, none, none, none, none]) (by simp [slotsOf, resA, putA, check_heap_ok B hg]) ?_
    refine seq_ok (e := [some (.fz (bxD a b c)), some (.fz (hpT a b g)), some (.fz (.int a)), some (.fz (.int b)), some (.fz (.int c)), none, none]) (by simp [bxD]) ?_
    simp [C]
    exact ⟨rfl, rfl⟩
  have k2 := run_rt (N := 7) (n := 2) (pin := [0, 1]) (body := s_mirror) (ms := [.fz (bxD a b c), .fz (hpT a b g)]) key
  rw [outs2] at k2
  exact k2
theorem law_mirror_ok {a b c : Nat} {g : Nat → Nat → Int} (B : Bx a b c) : F__law_mirror [.fz (hpT a b g)] = .ok (.fz (hpT b a fun j i => g i j), [some (.fz (hpT a b g))]) := by
  obtain ⟨ha, hb, hc⟩ := B
  have C : s__law_mirror_c3 [some (.fz (hpT a b g)), none, none] = .ok (.ml ((tb b fun j => rowT a fun i => g i j).map .fz), [some (.fz (hpT a b g)), none, none]) := by
    have e0 : atI (rT a b g) (0 : Int) = some (rowT b (g 0)) := rT_at (i := 0) (by omega)
    refine lg_tb (F := fun j => .int (0 + (j : Int))) (ev1 := [some (.fz (hpT a b g)), none, none]) _ (by simp [e0, rg1n (show b ≤ 1000 by omega), rgI_tb]) rfl (by omega) (fun j hj => ⟨_, rfl, ?_, rfl⟩) rfl
    have D : s__law_mirror_c1 [some (.fz (hpT a b g)), some (.fz (.int j)), none] = .ok (.ml ((tb a fun i => .int (g i j)).map .fz), [some (.fz (hpT a b g)), some (.fz (.int j)), none]) := by
      refine lg_tb (F := fun i => rowT b (g i)) (ev1 := [some (.fz (hpT a b g)), some (.fz (.int j)), none]) _ (by simp; rfl) rfl (by omega) (fun i hi => ⟨_, rfl, ?_, rfl⟩) rfl
      unfold s__law_mirror_e0
      simp [iT_at hj]
    unfold s__law_mirror_e2
    simp [D]
    rfl
  have key : s__law_mirror [some (.fz (hpT a b g)), none, none] = .ok (.rt (.fz (hpT b a fun j i => g i j)), [some (.fz (hpT a b g)), none, none]) := by
    unfold s__law_mirror
    simp [C]
    rfl
  have k2 := run_rt (N := 3) (n := 1) (pin := [0]) (body := s__law_mirror) (ms := [.fz (hpT a b g)]) key
  rw [outs1] at k2
  exact k2
def othG (a b c : Nat) (g : Nat → Nat → Int) : Nat → Nat → Int := fun i j => c - g (a - 1 - i) (b - 1 - j)
theorem other_ok {a b c : Nat} {g : Nat → Nat → Int} (B : Bx a b c) (hg : Heap a b c g) : F_other_side [.fz (bxD a b c), .fz (hpT a b g)] = .ok (.fz (.tuple [bxD a b c, hpT a b (othG a b c g)]), [some (.fz (bxD a b c)), some (.fz (hpT a b g))]) := by
  have B' := B
  obtain ⟨ha, hb, hc⟩ := B'
  have C : s_other_side_c3 [some (.fz (bxD a b c)), some (.fz (hpT a b g)), none, none] = .ok (.ml ((tb a fun i => rowT b (othG a b c g i)).map .fz), [some (.fz (bxD a b c)), some (.fz (hpT a b g)), none, none]) := by
    refine lg_tb (F := fun i => rowT b (g (a - 1 - i))) (ev1 := [some (.fz (bxD a b c)), some (.fz (hpT a b g)), none, none]) _ (by simp; rfl) rfl (by omega) (fun i hi => ⟨_, rfl, ?_, rfl⟩) rfl
    have D : s_other_side_c1 [some (.fz (bxD a b c)), some (.fz (hpT a b g)), some (.fz (rowT b (g (a - 1 - i)))), none] = .ok (.ml ((tb b fun j => .int (othG a b c g i j)).map .fz), [some (.fz (bxD a b c)), some (.fz (hpT a b g)), some (.fz (rowT b (g (a - 1 - i)))), none]) := by
      refine lg_tb (F := fun j => .int (g (a - 1 - i) (b - 1 - j))) (ev1 := [some (.fz (bxD a b c)), some (.fz (hpT a b g)), some (.fz (rowT b (g (a - 1 - i)))), none]) _ (by simp; rfl) rfl (by omega) (fun j hj => ⟨_, rfl, ?_, rfl⟩) rfl
      unfold s_other_side_e0
      simp [othG]
    unfold s_other_side_e2
    simp [D]
    rfl
  have key : s_other_side [some (.fz (bxD a b c)), some (.fz (hpT a b g)), none, none] = .ok (.rt (.fz (.tuple [bxD a b c, hpT a b (othG a b c g)])), [some (.fz (bxD a b c)), some (.fz (hpT a b g)), none, none]) := by
    unfold s_other_side
    refine seq_ok (e := [some (.fz (bxD a b c)), some (.fz (hpT a b g)), none, none]) (by simp [slotsOf, resA, putA, check_heap_ok B hg]) ?_
    simp [C]
    rfl
  have k2 := run_rt (N := 4) (n := 2) (pin := [0, 1]) (body := s_other_side) (ms := [.fz (bxD a b c), .fz (hpT a b g)]) key
  rw [outs2] at k2
  exact k2
theorem law_other_ok {a b c : Nat} {g : Nat → Nat → Int} (B : Bx a b c) : F__law_other [.fz (bxD a b c), .fz (hpT a b g)] = .ok (.fz (hpT a b (othG a b c g)), [some (.fz (bxD a b c)), some (.fz (hpT a b g))]) := by
  obtain ⟨ha, hb, hc⟩ := B
  have C : s__law_other_c3 [some (.fz (bxD a b c)), some (.fz (hpT a b g)), none, none] = .ok (.ml ((tb a fun i => rowT b (othG a b c g i)).map .fz), [some (.fz (bxD a b c)), some (.fz (hpT a b g)), none, none]) := by
    refine lg_tb (F := fun i => rowT b (g (a - 1 - i))) (ev1 := [some (.fz (bxD a b c)), some (.fz (hpT a b g)), none, none]) _ (by simp; rfl) rfl (by omega) (fun i hi => ⟨_, rfl, ?_, rfl⟩) rfl
    have D : s__law_other_c1 [some (.fz (bxD a b c)), some (.fz (hpT a b g)), some (.fz (rowT b (g (a - 1 - i)))), none] = .ok (.ml ((tb b fun j => .int (othG a b c g i j)).map .fz), [some (.fz (bxD a b c)), some (.fz (hpT a b g)), some (.fz (rowT b (g (a - 1 - i)))), none]) := by
      refine lg_tb (F := fun j => .int (g (a - 1 - i) (b - 1 - j))) (ev1 := [some (.fz (bxD a b c)), some (.fz (hpT a b g)), some (.fz (rowT b (g (a - 1 - i)))), none]) _ (by simp; rfl) rfl (by omega) (fun j hj => ⟨_, rfl, ?_, rfl⟩) rfl
      unfold s__law_other_e0
      simp [othG]
    unfold s__law_other_e2
    simp [D]
    rfl
  have key : s__law_other [some (.fz (bxD a b c)), some (.fz (hpT a b g)), none, none] = .ok (.rt (.fz (hpT a b (othG a b c g))), [some (.fz (bxD a b c)), some (.fz (hpT a b g)), none, none]) := by
    unfold s__law_other
    simp [C]
    rfl
  have k2 := run_rt (N := 4) (n := 2) (pin := [0, 1]) (body := s__law_other) (ms := [.fz (bxD a b c), .fz (hpT a b g)]) key
  rw [outs2] at k2
  exact k2
end TW


set_option linter.all false
set_option maxRecDepth 100000
set_option maxHeartbeats 1000000
namespace TW
open PySem L2
def rolG (a : Nat) (g : Nat → Nat → Int) : Nat → Nat → Int := fun j k => (((List.range a).filter fun i => decide ((k : Int) < g i j)).length : Nat)
theorem rolled_row {v0 v2 : Option M} {a b c j : Nat} {g : Nat → Nat → Int} (B : Bx a b c) (hj : j < b) :
    s_rolled_c3 [v0, some (.fz (hpT a b g)), v2, some (.fz (.int j)), some (.fz (.int a)), some (.fz (.int b)), some (.fz (.int c)), none, none] = .ok (.ml ((tb c fun k => .int (rolG a g j k)).map .fz), [v0, some (.fz (hpT a b g)), v2, some (.fz (.int j)), some (.fz (.int a)), some (.fz (.int b)), some (.fz (.int c)), none, none]) := by
  obtain ⟨ha, hb, hc⟩ := B
  refine lg_tb (F := fun j => .int (0 + (j : Int))) (ev1 := [v0, some (.fz (hpT a b g)), v2, some (.fz (.int j)), some (.fz (.int a)), some (.fz (.int b)), some (.fz (.int c)), none, none]) _ (by simp [rg1n (show c ≤ 1000 by omega), rgI_tb]) rfl (by omega) (fun k hk => ⟨_, rfl, ?_, rfl⟩) rfl
  have D : s_rolled_c1 [v0, some (.fz (hpT a b g)), v2, some (.fz (.int j)), some (.fz (.int a)), some (.fz (.int b)), some (.fz (.int c)), some (.fz (.int k)), none] = .ok (.ml ((((List.range a).filter fun i => decide ((k : Int) < g i j)).map fun i => rowT b (g i)).map .fz), [v0, some (.fz (hpT a b g)), v2, some (.fz (.int j)), some (.fz (.int a)), some (.fz (.int b)), some (.fz (.int c)), some (.fz (.int k)), none]) := by
    refine lg_fil (F := fun i => rowT b (g i)) (ev1 := [v0, some (.fz (hpT a b g)), v2, some (.fz (.int j)), some (.fz (.int a)), some (.fz (.int b)), some (.fz (.int c)), some (.fz (.int k)), none]) _ _ (by simp; rfl) rfl (by simp; omega) (fun i hi => ⟨_, rfl, ?_, fun _ => ?_, rfl⟩) rfl
    · simp [iT_at hj]
    · unfold s_rolled_e0
      simp
  unfold s_rolled_e2
  simp [-List.map_map, D, rolG]
theorem rolled_ok {a b c : Nat} {g : Nat → Nat → Int} (B : Bx a b c) (hg : Heap a b c g) : F_rolled [.fz (bxD a b c), .fz (hpT a b g)] = .ok (.fz (.tuple [bxD b c a, hpT b c (rolG a g)]), [some (.fz (bxD a b c)), some (.fz (hpT a b g))]) := by
  have B' := B
  obtain ⟨ha, hb, hc⟩ := B'
  have L := forRange (g := gN 3) (lo := 0) (n := b) (fb := s_rolled_f4) (fun n ev => ∃ x3, ev = [some (.fz (bxD a b c)), some (.fz (hpT a b g)), some (.ml ((rT n c (rolG a g)).map .fz)), x3, some (.fz (.int a)), some (.fz (.int b)), some (.fz (.int c)), none, none])
    (ev := [some (.fz (bxD a b c)), some (.fz (hpT a b g)), some (.ml []), none, some (.fz (.int a)), some (.fz (.int b)), some (.fz (.int c)), none, none]) ⟨none, rfl⟩ fun j ev hj ⟨x3, e⟩ => by
      subst e
      refine ⟨_, _, rfl, ?_, some (.fz (.int j)), rfl⟩
      rw [show (0 : Int) + j = j by omega]
      have R := rolled_row (v0 := some (.fz (bxD a b c))) (v2 := some (.ml ((rT j c (rolG a g)).map .fz))) (g := g) B hj
      have e : rT (j + 1) c (rolG a g) = rT j c (rolG a g) ++ [rowT c (rolG a g j)] := tb_succ ..
      have l1 : j < 16777216 := by omega
      have q : (PyData.tuple (tb c fun k => .int (rolG a g j k))) = rowT c (rolG a g j) := rfl
      rw [e]
      unfold s_rolled_f4
      simp [R, oSm, sMut, kApp, l1, q]
  obtain ⟨ev', e1, x3, e2⟩ := L
  subst e2
  have key : s_rolled [some (.fz (bxD a b c)), some (.fz (hpT a b g)), none, none, none, none, none, none, none] = .ok (.rt (.fz (.tuple [bxD b c a, hpT b c (rolG a g)])), [some (.fz (bxD a b c)), some (.fz (hpT a b g)), some (.ml ((rT b c (rolG a g)).map .fz)), x3, some (.fz (.int a)), some (.fz (.int b)), some (.fz (.int c)), none, none]) := by
    unfold s_rolled
    refine seq_ok (e := [some (.fz (bxD a b c)), some (.fz (hpT a b g)), none, none, none, none, none, none, none]) (by simp [slotsOf, resA, putA, check_heap_ok B hg]) ?_
    refine seq_ok (e := [some (.fz (bxD a b c)), some (.fz (hpT a b g)), none, none, some (.fz (.int a)), some (.fz (.int b)), some (.fz (.int c)), none, none]) (by simp [bxD]) ?_
    refine seq_ok (e := [some (.fz (bxD a b c)), some (.fz (hpT a b g)), some (.ml []), none, some (.fz (.int a)), some (.fz (.int b)), some (.fz (.int c)), none, none]) (by simp) ?_
    refine seq_ok (for_ok (e := [some (.fz (bxD a b c)), some (.fz (hpT a b g)), some (.ml []), none, some (.fz (.int a)), some (.fz (.int b)), some (.fz (.int c)), none, none]) (items := rgI 0 b) (by simp [rg1n (show b ≤ 1000 by omega)]) e1) ?_
    simp
    exact ⟨rfl, rfl⟩
  have k2 := run_rt (N := 9) (n := 2) (pin := [0, 1]) (body := s_rolled) (ms := [.fz (bxD a b c), .fz (hpT a b g)]) key
  rw [outs2] at k2
  exact k2
theorem law_rolled_row {v2 : Option M} {a b c j : Nat} {g : Nat → Nat → Int} (B : Bx a b c) (hj : j < b) :
    s__law_rolled_c3 [some (.fz (bxD a b c)), some (.fz (hpT a b g)), v2, some (.fz (.int j)), none, none] = .ok (.ml ((tb c fun k => .int (rolG a g j k)).map .fz), [some (.fz (bxD a b c)), some (.fz (hpT a b g)), v2, some (.fz (.int j)), none, none]) := by
  obtain ⟨ha, hb, hc⟩ := B
  refine lg_tb (F := fun j => .int (0 + (j : Int))) (ev1 := [some (.fz (bxD a b c)), some (.fz (hpT a b g)), v2, some (.fz (.int j)), none, none]) _ (by simp [rg1n (show c ≤ 1000 by omega), rgI_tb]) rfl (by omega) (fun k hk => ⟨_, rfl, ?_, rfl⟩) rfl
  have D : s__law_rolled_c1 [some (.fz (bxD a b c)), some (.fz (hpT a b g)), v2, some (.fz (.int j)), some (.fz (.int k)), none] = .ok (.ml ((((List.range a).filter fun i => decide ((k : Int) < g i j)).map fun i => rowT b (g i)).map .fz), [some (.fz (bxD a b c)), some (.fz (hpT a b g)), v2, some (.fz (.int j)), some (.fz (.int k)), none]) := by
    refine lg_fil (F := fun i => rowT b (g i)) (ev1 := [some (.fz (bxD a b c)), some (.fz (hpT a b g)), v2, some (.fz (.int j)), some (.fz (.int k)), none]) _ _ (by simp; rfl) rfl (by simp; omega) (fun i hi => ⟨_, rfl, ?_, fun _ => ?_, rfl⟩) rfl
    · simp [iT_at hj]
    · unfold s__law_rolled_e0
      simp
  unfold s__law_rolled_e2
  simp [-List.map_map, D, rolG]
theorem law_rolled_ok {a b c : Nat} {g : Nat → Nat → Int} (B : Bx a b c) : F__law_rolled [.fz (bxD a b c), .fz (hpT a b g)] = .ok (.fz (hpT b c (rolG a g)), [some (.fz (bxD a b c)), some (.fz (hpT a b g))]) := by
  have B' := B
  obtain ⟨ha, hb, hc⟩ := B'
  have L := forRange (g := gN 3) (lo := 0) (n := b) (fb := s__law_rolled_f4) (fun n ev => ∃ x3, ev = [some (.fz (bxD a b c)), some (.fz (hpT a b g)), some (.ml ((rT n c (rolG a g)).map .fz)), x3, none, none])
    (ev := [some (.fz (bxD a b c)), some (.fz (hpT a b g)), some (.ml []), none, none, none]) ⟨none, rfl⟩ fun j ev hj ⟨x3, e⟩ => by
      subst e
      refine ⟨_, _, rfl, ?_, some (.fz (.int j)), rfl⟩
      rw [show (0 : Int) + j = j by omega]
      have R := law_rolled_row (v2 := some (.ml ((rT j c (rolG a g)).map .fz))) (g := g) B hj
      have e : rT (j + 1) c (rolG a g) = rT j c (rolG a g) ++ [rowT c (rolG a g j)] := tb_succ ..
      have l1 : j < 16777216 := by omega
      have q : (PyData.tuple (tb c fun k => .int (rolG a g j k))) = rowT c (rolG a g j) := rfl
      rw [e]
      unfold s__law_rolled_f4
      simp [R, oSm, sMut, kApp, l1, q]
  obtain ⟨ev', e1, x3, e2⟩ := L
  subst e2
  have key : s__law_rolled [some (.fz (bxD a b c)), some (.fz (hpT a b g)), none, none, none, none] = .ok (.rt (.fz (hpT b c (rolG a g))), [some (.fz (bxD a b c)), some (.fz (hpT a b g)), some (.ml ((rT b c (rolG a g)).map .fz)), x3, none, none]) := by
    unfold s__law_rolled
    refine seq_ok (e := [some (.fz (bxD a b c)), some (.fz (hpT a b g)), some (.ml []), none, none, none]) (by simp) ?_
    refine seq_ok (for_ok (e := [some (.fz (bxD a b c)), some (.fz (hpT a b g)), some (.ml []), none, none, none]) (items := rgI 0 b) (by simp [rg1n (show b ≤ 1000 by omega)]) e1) ?_
    simp
    rfl
  have k2 := run_rt (N := 6) (n := 2) (pin := [0, 1]) (body := s__law_rolled) (ms := [.fz (bxD a b c), .fz (hpT a b g)]) key
  rw [outs2] at k2
  exact k2
end TW


set_option linter.all false
set_option maxRecDepth 100000
set_option maxHeartbeats 1000000
namespace TW
open PySem L2
/-! paths: true is "on" -/
def lt : Bool → PyData
  | true => .str "on"
  | false => .str "up"
def ltD (p : List Bool) : List PyData := p.map lt
def rowL (l : List Int) : PyData := .tuple (l.map .int)
def hpL (l : List (List Int)) : PyData := .tuple (l.map rowL)
theorem rowT_L (b : Nat) (f : Nat → Int) : rowT b f = rowL (tb b f) := by
  unfold rowT rowL
  rw [tb_map]
theorem hpT_L (a b : Nat) (g : Nat → Nat → Int) : hpT a b g = hpL (tb a fun i => tb b (g i)) := by
  unfold hpT hpL
  rw [tb_map]
  congr 1
  exact tb_congr fun i hi => rowT_L ..
def ups (n : Int) : List Bool := List.replicate n.toNat false
def pmid (h : Int) : List Int → List Bool
  | [] => []
  | x :: xs => ups (x - h) ++ true :: pmid x xs
def plast (h : Int) : List Int → Int
  | [] => h
  | x :: xs => plast x xs
def pathF (c : Int) (row : List Int) : List Bool := pmid 0 row.reverse ++ ups (c - plast 0 row.reverse)
def Small (l : List Int) : Prop := l.length ≤ 1000 ∧ ∀ x ∈ l, 0 ≤ x ∧ x ≤ 1000
theorem mulUp {k : Int} (h1 : -1000000 < k) (h2 : k < 1000000) : sMul (.list [.str "up"]) (.int k) = sret (.ml ((ltD (ups k)).map .fz)) := by
  show (if k < 1000000 ∧ [PyData.str "up"].length * k.toNat ≤ 16777216 ∧ -1000000 < k then _ else _) = _
  rw [if_pos ⟨h2, by rw [List.length_singleton]; omega, h1⟩]
  have : (List.replicate k.toNat [PyData.str "up"]).flatten = ltD (ups k) := by
    unfold ltD ups
    rw [List.map_replicate]
    generalize k.toNat = n
    induction n with
    | zero => rfl
    | succ n ih =>
      rw [List.replicate_succ, List.flatten_cons, ih]
      rfl
  rw [this]
theorem ups_len (k : Int) : (ups k).length = k.toNat := by simp [ups]
theorem ltD_len (k : List Bool) : (ltD k).length = k.length := by simp [ltD]
theorem ltD_app (k l : List Bool) : ltD (k ++ l) = ltD k ++ ltD l := by simp [ltD]
theorem po_step {v0 v1 : Option M} {acc : List Bool} {h x : Int} (hl : acc.length ≤ 10000000) (hh : 0 ≤ h ∧ h ≤ 1000) (hx : 0 ≤ x ∧ x ≤ 1000) :
    s_path_of_f0 [v0, v1, some (.fz (.int x)), some (.ml ((ltD acc).map .fz)), some (.fz (.int h))] = .ok (.nx, [v0, v1, some (.fz (.int x)), some (.ml ((ltD (acc ++ (ups (x - h) ++ [true]))).map .fz)), some (.fz (.int x))]) := by
  unfold s_path_of_f0
  have m := mulUp (k := x - h) (by omega) (by omega)
  have a1 : (ltD acc).length + (ltD (ups (x - h))).length ≤ 16777216 := by rw [ltD_len, ltD_len, ups_len]; omega
  have a2 : (ltD acc ++ ltD (ups (x - h))).length + [PyData.str "on"].length ≤ 16777216 := by rw [List.length_append, ltD_len, ltD_len, ups_len, List.length_singleton]; omega
  have e1 : sAdd (.list (ltD acc)) (.list (ltD (ups (x - h)))) = sret (.ml ((ltD acc ++ ltD (ups (x - h))).map .fz)) := by rw [e_addL, if_pos a1]
  have e2 : sAdd (.list (ltD acc ++ ltD (ups (x - h)))) (.list [.str "on"]) = sret (.ml (((ltD acc ++ ltD (ups (x - h))) ++ [PyData.str "on"]).map .fz)) := by rw [e_addL, if_pos a2]
  have e3 : ltD (acc ++ (ups (x - h) ++ [true])) = (ltD acc ++ ltD (ups (x - h))) ++ [.str "on"] := by
    rw [ltD_app, ltD_app, List.append_assoc]; rfl
  rw [e3]
  have f1 : frz (.ml [.fz (.str "up")]) = some (.list [.str "up"]) := rfl
  have f2 : frz (.ml [.fz (.str "on")]) = some (.list [.str "on"]) := rfl
  simp [-List.map_append, frzs_map, m, e1, e2, f1, f2]
theorem po_loop {v0 v1 : Option M} : ∀ (xs : List Int) (acc : List Bool) (h : Int) (v2 : Option M), acc.length + xs.length * 1001 ≤ 10000000 → (0 ≤ h ∧ h ≤ 1000) → (∀ x ∈ xs, 0 ≤ x ∧ x ≤ 1000) →
    ∃ v2', forLoop (gN 2) s_path_of_f0 (xs.map .int) [v0, v1, v2, some (.ml ((ltD acc).map .fz)), some (.fz (.int h))] = .ok (.nx, [v0, v1, v2', some (.ml ((ltD (acc ++ pmid h xs)).map .fz)), some (.fz (.int (plast h xs)))])
  | [], acc, h, v2, _, _, _ => ⟨v2, by rw [pmid, List.append_nil]; rfl⟩
  | x :: xs, acc, h, v2, hl, hh, hx => by
    rw [List.length_cons] at hl
    have hx0 := hx x (List.mem_cons_self ..)
    obtain ⟨v2', e⟩ := po_loop (v0 := v0) (v1 := v1) xs (acc ++ (ups (x - h) ++ [true])) x (some (.fz (.int x))) (by
      rw [List.length_append, List.length_append, ups_len, List.length_singleton]; omega) hx0 fun y hy => hx y (List.mem_cons_of_mem _ hy)
    refine ⟨v2', ?_⟩
    rw [List.map_cons, forLoop]
    show (match s_path_of_f0 [v0, v1, some (.fz (.int x)), some (.ml ((ltD acc).map .fz)), some (.fz (.int h))] with | .ok (.nx, ev2) => forLoop (gN 2) s_path_of_f0 (xs.map .int) ev2 | .ok (.ct, ev2) => forLoop (gN 2) s_path_of_f0 (xs.map .int) ev2 | .ok (.bk, ev2) => .ok (.nx, ev2) | .ok (.rt m, ev2) => .ok (.rt m, ev2) | .exc c => .exc c | .no => .no) = _
    rw [po_step (by omega) hh hx0]
    show forLoop (gN 2) s_path_of_f0 (xs.map .int) _ = _
    rw [e]
    have q : acc ++ (ups (x - h) ++ [true]) ++ pmid x xs = acc ++ pmid h (x :: xs) := by
      rw [pmid]
      simp
    rw [q]
    rfl
theorem plast_bd {h : Int} : ∀ (xs : List Int), (0 ≤ h ∧ h ≤ 1000) → (∀ x ∈ xs, 0 ≤ x ∧ x ≤ 1000) → 0 ≤ plast h xs ∧ plast h xs ≤ 1000
  | [], hh, _ => hh
  | x :: xs, _, hx => plast_bd xs (hx x (List.mem_cons_self ..)) fun y hy => hx y (List.mem_cons_of_mem _ hy)
theorem pmid_len {h : Int} : ∀ (xs : List Int), (0 ≤ h ∧ h ≤ 1000) → (∀ x ∈ xs, 0 ≤ x ∧ x ≤ 1000) → (pmid h xs).length ≤ xs.length * 1001
  | [], _, _ => by simp [pmid]
  | x :: xs, hh, hx => by
    have hx0 := hx x (List.mem_cons_self ..)
    have := pmid_len xs hx0 fun y hy => hx y (List.mem_cons_of_mem _ hy)
    rw [pmid, List.length_append, ups_len, List.length_cons, List.length_cons]
    omega
theorem rev_rowL (l : List Int) : sRev (rowL l) = sret (.fz (rowL l.reverse)) := by
  show sret (M.fz (.tuple (l.map .int).reverse)) = _
  rw [← List.map_reverse]
  rfl
@[simp] theorem it_rowL (l : List Int) : sItems (rowL l) = sret (l.map .int) := rfl
@[simp] theorem it_hpL (l : List (List Int)) : sItems (hpL l) = sret (l.map rowL) := rfl
def pathD (p : List Bool) : PyData := .tuple (ltD p)
theorem small_rev {l : List Int} (h : Small l) : l.reverse.length ≤ 1000 ∧ ∀ x ∈ l.reverse, 0 ≤ x ∧ x ≤ 1000 := ⟨by rw [List.length_reverse]; exact h.1, fun x hx => h.2 x (List.mem_reverse.mp hx)⟩
theorem path_of_ok {l : List Int} {c : Int} (h : Small l) (hc : 0 ≤ c ∧ c ≤ 1000) : F_path_of [.fz (rowL l), .fz (.int c)] = .ok (.fz (pathD (pathF c l)), [some (.fz (rowL l)), some (.fz (.int c))]) := by
  obtain ⟨h1, h2⟩ := small_rev h
  obtain ⟨v2, e⟩ := po_loop (v0 := some (.fz (rowL l))) (v1 := some (.fz (.int c))) l.reverse [] 0 none (by simp only [List.length_nil]; omega) (by omega) h2
  have pb := plast_bd (h := 0) l.reverse (by omega) h2
  have pl := pmid_len (h := 0) l.reverse (by omega) h2
  have m := mulUp (k := c - plast 0 l.reverse) (by omega) (by omega)
  have a1 : (ltD (pmid 0 l.reverse)).length + (ltD (ups (c - plast 0 l.reverse))).length ≤ 16777216 := by rw [ltD_len, ltD_len, ups_len]; omega
  have e1 : sAdd (.list (ltD (pmid 0 l.reverse))) (.list (ltD (ups (c - plast 0 l.reverse)))) = sret (.ml ((ltD (pathF c l)).map .fz)) := by
    rw [e_addL, if_pos a1, ← ltD_app]
    rfl
  have f1 : frz (.ml [.fz (.str "up")]) = some (.list [.str "up"]) := rfl
  have key : s_path_of [some (.fz (rowL l)), some (.fz (.int c)), none, none, none] = .ok (.rt (.fz (pathD (pathF c l))), [some (.fz (rowL l)), some (.fz (.int c)), v2, some (.fz (.list (ltD (pmid 0 l.reverse)))), some (.fz (.int (plast 0 l.reverse)))]) := by
    unfold s_path_of
    refine seq_ok (e := [some (.fz (rowL l)), some (.fz (.int c)), none, some (.ml []), some (.fz (.int 0))]) (by simp) ?_
    refine seq_ok (for_ok (e := [some (.fz (rowL l)), some (.fz (.int c)), none, some (.ml []), some (.fz (.int 0))]) (items := l.reverse.map .int) (by simp [rev_rowL]) e) ?_
    simp [-List.map_append, frzs_map, m, e1, f1]
    rfl
  have k2 := run_rt (N := 5) (n := 2) (pin := [0, 1]) (body := s_path_of) (ms := [.fz (rowL l), .fz (.int c)]) key
  rw [outs2] at k2
  exact k2
def pathsD (c : Int) (l : List (List Int)) : PyData := .tuple (l.map fun r => pathD (pathF c r))
theorem heap_small {a b c : Nat} {g : Nat → Nat → Int} (B : Bx a b c) (hg : Heap a b c g) {r : List Int} (h : r ∈ tb a fun i => tb b (g i)) : Small r := by
  obtain ⟨i, hi, rfl⟩ := tb_mem h
  refine ⟨by rw [tb_len]; have := B.hb; omega, fun x hx => ?_⟩
  obtain ⟨j, hj, rfl⟩ := tb_mem hx
  have := hg.lo i j hi hj
  have := hg.hi i j hi hj
  have := B.hc
  omega
theorem paths_of_ok {a b c : Nat} {g : Nat → Nat → Int} (B : Bx a b c) (hg : Heap a b c g) : F_paths_of [.fz (bxD a b c), .fz (hpT a b g)] = .ok (.fz (pathsD c (tb a fun i => tb b (g i))), [some (.fz (bxD a b c)), some (.fz (hpT a b g))]) := by
  have B' := B
  obtain ⟨ha, hb, hc⟩ := B'
  have C : s_paths_of_c1 [some (.fz (bxD a b c)), some (.fz (hpT a b g)), none] = .ok (.ml (((tb a fun i => tb b (g i)).map fun r => pathD (pathF c r)).map .fz), [some (.fz (bxD a b c)), some (.fz (hpT a b g)), none]) := by
    refine lg_ls (F := rowL) (items := tb a fun i => tb b (g i)) (ev1 := [some (.fz (bxD a b c)), some (.fz (hpT a b g)), none]) _ (by rw [hpT_L]; simp) rfl (by simp; omega) (fun r hr => ⟨_, rfl, ?_, rfl⟩) rfl
    unfold s_paths_of_e0
    simp [slotsOf, resA, putA, path_of_ok (c := c) (heap_small B hg hr) (by omega)]
  have key : s_paths_of [some (.fz (bxD a b c)), some (.fz (hpT a b g)), none] = .ok (.rt (.fz (pathsD c (tb a fun i => tb b (g i)))), [some (.fz (bxD a b c)), some (.fz (hpT a b g)), none]) := by
    unfold s_paths_of
    refine seq_ok (e := [some (.fz (bxD a b c)), some (.fz (hpT a b g)), none]) (by simp [slotsOf, resA, putA, check_heap_ok B hg]) ?_
    simp [-List.map_map, C]
    rfl
  have k2 := run_rt (N := 3) (n := 2) (pin := [0, 1]) (body := s_paths_of) (ms := [.fz (bxD a b c), .fz (hpT a b g)]) key
  rw [outs2] at k2
  exact k2
end TW


set_option linter.all false
set_option maxRecDepth 100000
set_option maxHeartbeats 1000000
namespace TW
open PySem L2
theorem lp_step {v0 v1 v2 v3 : Option M} {acc : List Bool} {h x : Int} (hl : acc.length ≤ 10000000) (hh : 0 ≤ h ∧ h ≤ 1000) (hx : 0 ≤ x ∧ x ≤ 1000) :
    s__law_paths_f0 [v0, v1, v2, v3, some (.ml ((ltD acc).map .fz)), some (.fz (.int h)), some (.fz (.int x))] = .ok (.nx, [v0, v1, v2, v3, some (.ml ((ltD (acc ++ (ups (x - h) ++ [true]))).map .fz)), some (.fz (.int x)), some (.fz (.int x))]) := by
  unfold s__law_paths_f0
  have m := mulUp (k := x - h) (by omega) (by omega)
  have a1 : (ltD acc).length + (ltD (ups (x - h))).length ≤ 16777216 := by rw [ltD_len, ltD_len, ups_len]; omega
  have a2 : (ltD acc ++ ltD (ups (x - h))).length + [PyData.str "on"].length ≤ 16777216 := by rw [List.length_append, ltD_len, ltD_len, ups_len, List.length_singleton]; omega
  have e1 : sAdd (.list (ltD acc)) (.list (ltD (ups (x - h)))) = sret (.ml ((ltD acc ++ ltD (ups (x - h))).map .fz)) := by rw [e_addL, if_pos a1]
  have e2 : sAdd (.list (ltD acc ++ ltD (ups (x - h)))) (.list [.str "on"]) = sret (.ml (((ltD acc ++ ltD (ups (x - h))) ++ [PyData.str "on"]).map .fz)) := by rw [e_addL, if_pos a2]
  have e3 : ltD (acc ++ (ups (x - h) ++ [true])) = (ltD acc ++ ltD (ups (x - h))) ++ [.str "on"] := by
    rw [ltD_app, ltD_app, List.append_assoc]; rfl
  rw [e3]
  have f1 : frz (.ml [.fz (.str "up")]) = some (.list [.str "up"]) := rfl
  have f2 : frz (.ml [.fz (.str "on")]) = some (.list [.str "on"]) := rfl
  simp [-List.map_append, frzs_map, m, e1, e2, f1, f2]
theorem lp_loop {v0 v1 v2 v3 : Option M} : ∀ (xs : List Int) (acc : List Bool) (h : Int) (v6 : Option M), acc.length + xs.length * 1001 ≤ 10000000 → (0 ≤ h ∧ h ≤ 1000) → (∀ x ∈ xs, 0 ≤ x ∧ x ≤ 1000) →
    ∃ v6', forLoop (gN 6) s__law_paths_f0 (xs.map .int) [v0, v1, v2, v3, some (.ml ((ltD acc).map .fz)), some (.fz (.int h)), v6] = .ok (.nx, [v0, v1, v2, v3, some (.ml ((ltD (acc ++ pmid h xs)).map .fz)), some (.fz (.int (plast h xs))), v6'])
  | [], acc, h, v2, _, _, _ => ⟨v2, by rw [pmid, List.append_nil]; rfl⟩
  | x :: xs, acc, h, v6, hl, hh, hx => by
    rw [List.length_cons] at hl
    have hx0 := hx x (List.mem_cons_self ..)
    obtain ⟨v6', e⟩ := lp_loop (v0 := v0) (v1 := v1) (v2 := v2) (v3 := v3) xs (acc ++ (ups (x - h) ++ [true])) x (some (.fz (.int x))) (by
      rw [List.length_append, List.length_append, ups_len, List.length_singleton]; omega) hx0 fun y hy => hx y (List.mem_cons_of_mem _ hy)
    refine ⟨v6', ?_⟩
    rw [List.map_cons, forLoop]
    show (match s__law_paths_f0 [v0, v1, v2, v3, some (.ml ((ltD acc).map .fz)), some (.fz (.int h)), some (.fz (.int x))] with | .ok (.nx, ev2) => forLoop (gN 6) s__law_paths_f0 (xs.map .int) ev2 | .ok (.ct, ev2) => forLoop (gN 6) s__law_paths_f0 (xs.map .int) ev2 | .ok (.bk, ev2) => .ok (.nx, ev2) | .ok (.rt m, ev2) => .ok (.rt m, ev2) | .exc c => .exc c | .no => .no) = _
    rw [lp_step (by omega) hh hx0]
    show forLoop (gN 6) s__law_paths_f0 (xs.map .int) _ = _
    rw [e]
    have q : acc ++ (ups (x - h) ++ [true]) ++ pmid x xs = acc ++ pmid h (x :: xs) := by
      rw [pmid]
      simp
    rw [q]
    rfl
theorem lp_row {v1 v4 v5 v6 : Option M} {a b c : Nat} {l : List Int} {acc : List PyData} (hc : c ≤ 1000) (h : Small l) (hacc : acc.length ≤ 1000000) :
    ∃ w4 w5 w6, s__law_paths_f1 [some (.fz (bxD a b c)), v1, some (.ml (acc.map .fz)), some (.fz (rowL l)), v4, v5, v6] = .ok (.nx, [some (.fz (bxD a b c)), v1, some (.ml ((acc ++ [pathD (pathF c l)]).map .fz)), some (.fz (rowL l)), w4, w5, w6]) := by
  obtain ⟨h1, h2⟩ := small_rev h
  obtain ⟨w6, e⟩ := lp_loop (v0 := some (.fz (bxD a b c))) (v1 := v1) (v2 := some (.ml (acc.map .fz))) (v3 := some (.fz (rowL l))) l.reverse [] 0 v6 (by simp only [List.length_nil]; omega) (by omega) h2
  have pb := plast_bd (h := 0) l.reverse (by omega) h2
  have pl := pmid_len (h := 0) l.reverse (by omega) h2
  have m := mulUp (k := c - plast 0 l.reverse) (by omega) (by omega)
  have a1 : (ltD (pmid 0 l.reverse)).length + (ltD (ups (c - plast 0 l.reverse))).length ≤ 16777216 := by rw [ltD_len, ltD_len, ups_len]; omega
  have e1 : sAdd (.list (ltD (pmid 0 l.reverse))) (.list (ltD (ups (c - plast 0 l.reverse)))) = sret (.ml ((ltD (pathF c l)).map .fz)) := by
    rw [e_addL, if_pos a1, ← ltD_app]
    rfl
  have f1 : frz (.ml [.fz (.str "up")]) = some (.list [.str "up"]) := rfl
  refine ⟨some (.fz (.list (ltD (pmid 0 l.reverse)))), some (.fz (.int (plast 0 l.reverse))), w6, ?_⟩
  unfold s__law_paths_f1
  refine seq_ok (e := [some (.fz (bxD a b c)), v1, some (.ml (acc.map .fz)), some (.fz (rowL l)), some (.ml []), v5, v6]) (by simp) ?_
  refine seq_ok (e := [some (.fz (bxD a b c)), v1, some (.ml (acc.map .fz)), some (.fz (rowL l)), some (.ml []), some (.fz (.int 0)), v6]) (by simp) ?_
  refine seq_ok (for_ok (e := [some (.fz (bxD a b c)), v1, some (.ml (acc.map .fz)), some (.fz (rowL l)), some (.ml []), some (.fz (.int 0)), v6]) (items := l.reverse.map .int) (by simp [rev_rowL]) e) ?_
  have l1 : acc.length < 16777216 := by omega
  simp [-List.map_append, frzs_map, m, e1, f1, oSm, sMut, kApp, l1]
  rw [List.map_append]
  rfl
theorem law_paths_ok {a b c : Nat} {l : List (List Int)} (hc : c ≤ 1000) (hl : l.length ≤ 1000) (h : ∀ r ∈ l, Small r) : F__law_paths [.fz (bxD a b c), .fz (hpL l)] = .ok (.fz (pathsD c l), [some (.fz (bxD a b c)), some (.fz (hpL l))]) := by
  have L : ∀ (l : List (List Int)) (acc : List PyData) (v1 v3 v4 v5 v6 : Option M), acc.length + l.length ≤ 1000000 → (∀ r ∈ l, Small r) → ∃ w3 w4 w5 w6, forLoop (gN 3) s__law_paths_f1 (l.map rowL) [some (.fz (bxD a b c)), v1, some (.ml (acc.map .fz)), v3, v4, v5, v6] = .ok (.nx, [some (.fz (bxD a b c)), v1, some (.ml ((acc ++ l.map fun r => pathD (pathF c r)).map .fz)), w3, w4, w5, w6]) := by
    intro l
    induction l with
    | nil => intro acc v1 v3 v4 v5 v6 _ _; exact ⟨v3, v4, v5, v6, by rw [List.map_nil, List.map_nil, List.append_nil]; rfl⟩
    | cons r l ih =>
      intro acc v1 v3 v4 v5 v6 hl h
      rw [List.length_cons] at hl
      obtain ⟨w4, w5, w6, e⟩ := lp_row (v1 := v1) (v4 := v4) (v5 := v5) (v6 := v6) (a := a) (b := b) (c := c) hc (h r (List.mem_cons_self ..)) (acc := acc) (by omega)
      obtain ⟨x3, x4, x5, x6, e2⟩ := ih (acc ++ [pathD (pathF c r)]) v1 (some (.fz (rowL r))) w4 w5 w6 (by simp; omega) fun q hq => h q (List.mem_cons_of_mem _ hq)
      refine ⟨x3, x4, x5, x6, ?_⟩
      rw [List.map_cons, forLoop]
      show (match s__law_paths_f1 [some (.fz (bxD a b c)), v1, some (.ml (acc.map .fz)), some (.fz (rowL r)), v4, v5, v6] with | .ok (.nx, ev2) => forLoop (gN 3) s__law_paths_f1 (l.map rowL) ev2 | .ok (.ct, ev2) => forLoop (gN 3) s__law_paths_f1 (l.map rowL) ev2 | .ok (.bk, ev2) => .ok (.nx, ev2) | .ok (.rt m, ev2) => .ok (.rt m, ev2) | .exc c => .exc c | .no => .no) = _
      rw [e]
      show forLoop (gN 3) s__law_paths_f1 (l.map rowL) _ = _
      rw [e2, List.append_assoc]
      rfl
  obtain ⟨w3, w4, w5, w6, e⟩ := L l [] (some (.fz (hpL l))) none none none none (by simp only [List.length_nil]; omega) h
  have key : s__law_paths [some (.fz (bxD a b c)), some (.fz (hpL l)), none, none, none, none, none] = .ok (.rt (.fz (pathsD c l)), [some (.fz (bxD a b c)), some (.fz (hpL l)), some (.ml ((l.map fun r => pathD (pathF c r)).map .fz)), w3, w4, w5, w6]) := by
    unfold s__law_paths
    refine seq_ok (e := [some (.fz (bxD a b c)), some (.fz (hpL l)), some (.ml []), none, none, none, none]) (by simp) ?_
    refine seq_ok (for_ok (e := [some (.fz (bxD a b c)), some (.fz (hpL l)), some (.ml []), none, none, none, none]) (items := l.map rowL) (by simp) e) ?_
    simp [-List.map_map]
    rfl
  have k2 := run_rt (N := 7) (n := 2) (pin := [0, 1]) (body := s__law_paths) (ms := [.fz (bxD a b c), .fz (hpL l)]) key
  rw [outs2] at k2
  exact k2
end TW


set_option linter.all false
set_option maxRecDepth 100000
set_option maxHeartbeats 1000000
namespace TW
open PySem L2
def ptD (p : Int × Int) : PyData := .tuple [.int p.1, .int p.2]
def pts : Int → Int → List Bool → List (Int × Int)
  | _, _, [] => []
  | x, y, true :: ls => (x + 1, y) :: pts (x + 1) y ls
  | x, y, false :: ls => (x, y + 1) :: pts x (y + 1) ls
def ptsI (i : Nat) (p : List Bool) : List (Int × Int) := ((i : Int), -(i : Int)) :: pts i (-(i : Int)) p
theorem pts_len : ∀ (x y : Int) (p : List Bool), (pts x y p).length = p.length
  | _, _, [] => rfl
  | x, y, true :: p => by rw [pts, List.length_cons, List.length_cons, pts_len]
  | x, y, false :: p => by rw [pts, List.length_cons, List.length_cons, pts_len]
theorem ptsI_len (i : Nat) (p : List Bool) : (ptsI i p).length = p.length + 1 := by rw [ptsI, List.length_cons, pts_len]
theorem eqStr (x y : Str) : sCmp .Eq (.str x) (.str y) = sret (x == y) := by
  show sopt (if min (PyData.depth (.str x)) (PyData.depth (.str y)) ≤ 60 then some (PyData.eqv (.str x) (.str y)) else none) = _
  have : PyData.eqv (.str x) (.str y) = (x == y) := by rw [PyData.eqv]
  rw [this]
  rfl
theorem eqOn (l : Bool) : sCmp .Eq (lt l) (.str "on") = sret l := by
  cases l
  · rw [lt, eqStr]
    rfl
  · rw [lt, eqStr]
    rfl
theorem eqUp (l : Bool) : sCmp .Eq (lt l) (.str "up") = sret (!l) := by
  cases l
  · rw [lt, eqStr]
    rfl
  · rw [lt, eqStr]
    rfl
def nxt (x y : Int) (l : Bool) : Int × Int := if l = true then (x + 1, y) else (x, y + 1)
theorem pts_cons (x y : Int) (l : Bool) (p : List Bool) : pts x y (l :: p) = nxt x y l :: pts (nxt x y l).1 (nxt x y l).2 p := by
  cases l <;> rfl
theorem me_step {v0 v1 v2 v7 : Option M} {acc : List (Int × Int)} {x y : Int} (l : Bool) (hl : acc.length < 1000000) :
    s__law_meet_f0 [v0, v1, v2, some (.ml ((acc.map ptD).map .fz)), some (.fz (lt l)), some (.fz (.int x)), some (.fz (.int y)), v7] = .ok (.nx, [v0, v1, v2, some (.ml (((acc ++ [nxt x y l]).map ptD).map .fz)), some (.fz (lt l)), some (.fz (.int (nxt x y l).1)), some (.fz (.int (nxt x y l).2)), v7]) := by
  unfold s__law_meet_f0
  have l1 : acc.length < 16777216 := by omega
  have e : (acc ++ [nxt x y l]).map ptD = acc.map ptD ++ [ptD (nxt x y l)] := by simp
  rw [e]
  cases l
  · simp [-List.map_map, eqOn, oSm, sMut, kApp, l1, nxt, ptD]
  · simp [-List.map_map, eqOn, oSm, sMut, kApp, l1, nxt, ptD]
theorem me_loop {v0 v1 v2 v7 : Option M} : ∀ (p : List Bool) (acc : List (Int × Int)) (x y : Int) (v4 : Option M), acc.length + p.length < 1000000 →
    ∃ w4 w5 w6, forLoop (gN 4) s__law_meet_f0 (ltD p) [v0, v1, v2, some (.ml ((acc.map ptD).map .fz)), v4, some (.fz (.int x)), some (.fz (.int y)), v7] = .ok (.nx, [v0, v1, v2, some (.ml (((acc ++ pts x y p).map ptD).map .fz)), w4, w5, w6, v7])
  | [], acc, x, y, v4, _ => ⟨v4, _, _, by rw [pts, List.append_nil]; rfl⟩
  | l :: p, acc, x, y, v4, hl => by
    rw [List.length_cons] at hl
    obtain ⟨w4, w5, w6, e⟩ := me_loop (v0 := v0) (v1 := v1) (v2 := v2) (v7 := v7) p (acc ++ [nxt x y l]) (nxt x y l).1 (nxt x y l).2 (some (.fz (lt l))) (by simp; omega)
    refine ⟨w4, w5, w6, ?_⟩
    show forLoop (gN 4) s__law_meet_f0 (lt l :: ltD p) _ = _
    rw [forLoop]
    show (match s__law_meet_f0 [v0, v1, v2, some (.ml ((acc.map ptD).map .fz)), some (.fz (lt l)), some (.fz (.int x)), some (.fz (.int y)), v7] with | .ok (.nx, ev2) => forLoop (gN 4) s__law_meet_f0 (ltD p) ev2 | .ok (.ct, ev2) => forLoop (gN 4) s__law_meet_f0 (ltD p) ev2 | .ok (.bk, ev2) => .ok (.nx, ev2) | .ok (.rt m, ev2) => .ok (.rt m, ev2) | .exc c => .exc c | .no => .no) = _
    rw [me_step l (by omega)]
    show forLoop (gN 4) s__law_meet_f0 (ltD p) _ = _
    rw [e, pts_cons, List.append_assoc]
    rfl
theorem eqv_pt (p q : Int × Int) : PyData.eqv (ptD p) (ptD q) = decide (p = q) := by
  obtain ⟨a, b⟩ := p
  obtain ⟨c, d⟩ := q
  unfold ptD
  rw [PyData.eqv, PyData.eqvAll, PyData.eqvAll, PyData.eqvAll, PyData.eqv, PyData.eqv]
  simp
  by_cases h : a = c <;> by_cases h' : b = d <;> simp [h, h']
theorem inPts (p : Int × Int) (l : List (Int × Int)) : sCmp .In (ptD p) (.list (l.map ptD)) = sret (decide (p ∈ l)) := by
  show sopt (if min (PyData.depthAll (l.map ptD)) (ptD p).depth ≤ 60 then some ((l.map ptD).any fun y => PyData.eqv y (ptD p)) else none) = _
  have d : (ptD p).depth ≤ 60 := by
    unfold ptD
    simp [PyData.depth, PyData.depthAll]
  rw [if_pos (by omega), List.any_map]
  have : (l.any ((fun y => PyData.eqv y (ptD p)) ∘ ptD)) = decide (p ∈ l) := by
    rw [Bool.eq_iff_iff, List.any_eq_true, decide_eq_true_eq]
    constructor
    · rintro ⟨q, h1, h2⟩
      have h2' : PyData.eqv (ptD q) (ptD p) = true := h2
      rw [eqv_pt, decide_eq_true_eq] at h2'
      rw [← h2']; exact h1
    · intro h
      exact ⟨p, h, by show PyData.eqv (ptD p) (ptD p) = true; rw [eqv_pt]; simp⟩
  rw [this]
  rfl
def meetF : List (Int × Int) → Nat → List (List Bool) → Bool
  | _, _, [] => false
  | seen, i, p :: ps => if (ptsI i p).any (fun q => decide (q ∈ seen)) = true then true else meetF (seen ++ ptsI i p) (i + 1) ps
end TW


set_option linter.all false
set_option maxRecDepth 100000
set_option maxHeartbeats 1000000
namespace TW
open PySem L2
/-- a tuple or a list of paths -/
structure IsPaths (PS : PyData) (ps : List (List Bool)) : Prop where
  ix : ∀ i : Int, TW.sIx PS (.int i) = sopt (atI (ps.map pathD) i)
  len : sLen PS = sret (.int ps.length)
theorem isPathsT (ps : List (List Bool)) : IsPaths (.tuple (ps.map pathD)) ps := ⟨fun i => rfl, by rw [e_lenT, List.length_map]⟩
theorem isPathsL (ps : List (List Bool)) : IsPaths (.list (ps.map pathD)) ps := ⟨fun i => rfl, by rw [e_lenL, List.length_map]⟩
theorem atI_get {α : Type} {l : List α} {i : Nat} {x : α} (h : l[i]? = some x) : atI l (i : Int) = some x := by
  have hi := (List.getElem?_eq_some_iff.mp h).1
  unfold atI ixN
  rw [if_pos (by omega), if_pos (by omega)]
  exact h
@[simp] theorem it_path (p : List Bool) : sItems (pathD p) = sret (ltD p) := rfl
theorem me_any {v0 v2 v4 v5 v6 : Option M} {seen here : List (Int × Int)} (hl : here.length ≤ 1000000) :
    s__law_meet_c2 [v0, some (.ml ((seen.map ptD).map .fz)), v2, some (.ml ((here.map ptD).map .fz)), v4, v5, v6, none] = .ok (.ml ((here.map fun p => PyData.bool (decide (p ∈ seen))).map .fz), [v0, some (.ml ((seen.map ptD).map .fz)), v2, some (.fz (.list (here.map ptD))), v4, v5, v6, none]) := by
  refine lg_ls (F := ptD) (items := here) (ev1 := [v0, some (.ml ((seen.map ptD).map .fz)), v2, some (.fz (.list (here.map ptD))), v4, v5, v6, none]) _ (by simp [-List.map_map, frzs_map]) rfl hl (fun p hp => ⟨_, rfl, ?_, rfl⟩) rfl
  unfold s__law_meet_e1
  simp [-List.map_map, inPts]
theorem me_body {PS : PyData} {ps : List (List Bool)} (IP : IsPaths PS ps) {seen : List (Int × Int)} {i : Nat} {p : List Bool} (hp : ps[i]? = some p) {v3 v4 v5 v6 : Option M} (h1 : seen.length ≤ 1000000) (h2 : p.length ≤ 1000) :
    ∃ w1 w3 w4 w5 w6, s__law_meet_f3 [some (.fz PS), some (.ml ((seen.map ptD).map .fz)), some (.fz (.int i)), v3, v4, v5, v6, none] = (if (ptsI i p).any (fun q => decide (q ∈ seen)) = true then .ok (.rt (.fz (.bool true)), [some (.fz PS), w1, some (.fz (.int i)), w3, w4, w5, w6, none]) else .ok (.nx, [some (.fz PS), some (.ml (((seen ++ ptsI i p).map ptD).map .fz)), some (.fz (.int i)), w3, w4, w5, w6, none])) := by
  obtain ⟨w4, w5, w6, e⟩ := me_loop (v0 := some (.fz PS)) (v1 := some (.ml ((seen.map ptD).map .fz))) (v2 := some (.fz (.int i))) (v7 := none) p [((i : Int), -(i : Int))] i (-(i : Int)) v4 (by rw [List.length_singleton]; omega)
  refine ⟨some (.ml ((seen.map ptD).map .fz)), some (.fz (.list ((ptsI i p).map ptD))), w4, w5, w6, ?_⟩
  have hat : atI (ps.map pathD) (i : Int) = some (pathD p) := atI_get (by rw [List.getElem?_map, hp]; rfl)
  have A := me_any (v0 := some (.fz PS)) (v2 := some (.fz (.int i))) (v4 := w4) (v5 := w5) (v6 := w6) (seen := seen) (here := ptsI i p) (by rw [ptsI_len]; omega)
  have T := sAny_map (fun q => decide (q ∈ seen)) (ptsI i p)
  unfold s__law_meet_f3
  refine seq_ok (e := [some (.fz PS), some (.ml ((seen.map ptD).map .fz)), some (.fz (.int i)), v3, v4, some (.fz (.int i)), some (.fz (.int (-(i : Int)))), none]) (by simp [Int.zero_sub]) ?_
  refine seq_ok (e := [some (.fz PS), some (.ml ((seen.map ptD).map .fz)), some (.fz (.int i)), some (.ml (([((i : Int), -(i : Int))].map ptD).map .fz)), v4, some (.fz (.int i)), some (.fz (.int (-(i : Int)))), none]) (by simp [ptD]) ?_
  refine seq_ok (for_ok (items := ltD p) (e := [some (.fz PS), some (.ml ((seen.map ptD).map .fz)), some (.fz (.int i)), some (.ml (([((i : Int), -(i : Int))].map ptD).map .fz)), v4, some (.fz (.int i)), some (.fz (.int (-(i : Int)))), none]) (by simp [IP.ix, hat]) e) ?_
  have q : [((i : Int), -(i : Int))] ++ pts i (-(i : Int)) p = ptsI i p := rfl
  rw [q]
  have hl : (seen.map ptD).length + ((ptsI i p).map ptD).length ≤ 16777216 := by rw [List.length_map, List.length_map, ptsI_len]; omega
  have e2 : sAdd (.list (seen.map ptD)) (.list ((ptsI i p).map ptD)) = sret (.ml (((seen ++ ptsI i p).map ptD).map .fz)) := by rw [e_addL, if_pos hl, ← List.map_append]
  by_cases h : (ptsI i p).any (fun q => decide (q ∈ seen)) = true
  · rw [if_pos h]
    rw [h] at T
    simp [-List.map_map, -List.map_append, A, T]
  · rw [if_neg h]
    rw [Bool.not_eq_true] at h
    rw [h] at T
    simp [-List.map_map, -List.map_append, A, T, frzs_map, e2]
theorem rgI_cons (lo : Int) (n : Nat) : rgI lo (n + 1) = .int lo :: rgI (lo + 1) n := by
  unfold rgI
  rw [List.range_succ_eq_map, List.map_cons, List.map_map]
  congr 1
  · simp
  · apply List.map_congr_left
    intro k _
    show PyData.int (lo + ((k + 1 : Nat) : Int)) = PyData.int (lo + 1 + (k : Int))
    congr 1
    omega
theorem me_out {PS : PyData} {ps : List (List Bool)} (IP : IsPaths PS ps) (hp : ∀ p ∈ ps, p.length ≤ 1000) (hn : ps.length ≤ 100) : ∀ (n i : Nat) (seen : List (Int × Int)) (v2 v3 v4 v5 v6 : Option M), i + n = ps.length → seen.length ≤ i * 1001 →
    ∃ r, forLoop (gN 2) s__law_meet_f3 (rgI i n) [some (.fz PS), some (.ml ((seen.map ptD).map .fz)), v2, v3, v4, v5, v6, none] = .ok (if meetF seen i (ps.drop i) = true then .rt (.fz (.bool true)) else .nx, some (.fz PS) :: r)
  | 0, i, seen, v2, v3, v4, v5, v6, hi, hs => by
    refine ⟨[some (.ml ((seen.map ptD).map .fz)), v2, v3, v4, v5, v6, none], ?_⟩
    rw [List.drop_of_length_le (by omega), meetF]
    rfl
  | n + 1, i, seen, v2, v3, v4, v5, v6, hi, hs => by
    have hlt : i < ps.length := by omega
    have hg : ps[i]? = some ps[i] := List.getElem?_eq_getElem hlt
    have hb := hp ps[i] (List.getElem_mem hlt)
    have hd : ps.drop i = ps[i] :: ps.drop (i + 1) := List.drop_eq_getElem_cons hlt
    obtain ⟨w1, w3, w4, w5, w6, e⟩ := me_body (PS := PS) IP (seen := seen) hg (v3 := v3) (v4 := v4) (v5 := v5) (v6 := v6) (by
      have : i * 1001 ≤ 100 * 1001 := Nat.mul_le_mul_right _ (by omega)
      omega) hb
    rw [rgI_cons, hd, meetF, forLoop]
    show ∃ r, (match s__law_meet_f3 [some (.fz PS), some (.ml ((seen.map ptD).map .fz)), some (.fz (.int i)), v3, v4, v5, v6, none] with | .ok (.nx, ev2) => forLoop (gN 2) s__law_meet_f3 (rgI ((i : Int) + 1) n) ev2 | .ok (.ct, ev2) => forLoop (gN 2) s__law_meet_f3 (rgI ((i : Int) + 1) n) ev2 | .ok (.bk, ev2) => .ok (.nx, ev2) | .ok (.rt m, ev2) => .ok (.rt m, ev2) | .exc c => .exc c | .no => .no) = _
    rw [e]
    by_cases h : (ptsI i ps[i]).any (fun q => decide (q ∈ seen)) = true
    · rw [if_pos h, if_pos h]
      exact ⟨_, rfl⟩
    · rw [if_neg h, if_neg h]
      obtain ⟨r, e3⟩ := me_out IP hp hn n (i + 1) (seen ++ ptsI i ps[i]) (some (.fz (.int i))) w3 w4 w5 w6 (by omega) (by
        rw [List.length_append, ptsI_len, Nat.add_mul]; omega)
      exact ⟨r, e3⟩
theorem meet_ok {PS : PyData} {ps : List (List Bool)} (IP : IsPaths PS ps) (hp : ∀ p ∈ ps, p.length ≤ 1000) (hn : ps.length ≤ 100) : F__law_meet [.fz PS] = .ok (.fz (.bool (meetF [] 0 ps)), [some (.fz PS)]) := by
  obtain ⟨r, e⟩ := me_out IP hp hn ps.length 0 [] none none none none none (by omega) (by simp)
  rw [List.drop_zero] at e
  have key : s__law_meet [some (.fz PS), none, none, none, none, none, none, none] = .ok (.rt (.fz (.bool (meetF [] 0 ps))), some (.fz PS) :: r) := by
    unfold s__law_meet
    refine seq_ok (e := [some (.fz PS), some (.ml []), none, none, none, none, none, none]) (by simp) ?_
    have F : (sFor (gN 2) s__law_meet_f3 (bd (bd (vF 0) sLen) sRg1)) [some (.fz PS), some (.ml []), none, none, none, none, none, none] = .ok (if meetF [] 0 ps = true then .rt (.fz (.bool true)) else .nx, some (.fz PS) :: r) :=
      for_ok (items := rgI 0 ps.length) (e := [some (.fz PS), some (.ml []), none, none, none, none, none, none]) (by simp [IP.len, rg1n (show ps.length ≤ 1000 by omega)]) e
    rw [e_seq, F]
    by_cases h : meetF [] 0 ps = true
    · rw [if_pos h, h]
    · rw [if_neg h]
      rw [Bool.not_eq_true] at h
      rw [h]
      rfl
  have k2 := run_rt (N := 8) (n := 1) (pin := [0]) (body := s__law_meet) (ms := [.fz PS]) key
  rw [outs1] at k2
  exact k2
end TW


set_option linter.all false
set_option maxRecDepth 100000
set_option maxHeartbeats 1000000
namespace TW
open PySem L2
/-! ### plain facts of paths -/
def rowF (h : Int) : List Bool → List Int
  | [] => []
  | true :: p => h :: rowF h p
  | false :: p => rowF (h + 1) p
def rowOf (p : List Bool) : List Int := (rowF 0 p).reverse
def nF (p : List Bool) : Nat := p.count false
def nT (p : List Bool) : Nat := p.count true
theorem rowF_bd : ∀ (p : List Bool) (h : Int), ∀ x ∈ rowF h p, h ≤ x ∧ x ≤ h + nF p
  | [], h, x, hx => by cases hx
  | true :: p, h, x, hx => by
    have e : nF (true :: p) = nF p := by simp [nF]
    rw [e]
    rcases List.mem_cons.mp hx with r | r
    · omega
    · exact rowF_bd p h x r
  | false :: p, h, x, hx => by
    have e : nF (false :: p) = nF p + 1 := by simp [nF]
    have := rowF_bd p (h + 1) x hx
    omega
theorem rowF_len : ∀ (p : List Bool) (h : Int), (rowF h p).length = nT p
  | [], h => rfl
  | true :: p, h => by
    have e : nT (true :: p) = nT p + 1 := by simp [nT]
    rw [e, rowF, List.length_cons, rowF_len]
  | false :: p, h => by
    have e : nT (false :: p) = nT p := by simp [nT]
    rw [e, rowF, rowF_len]
theorem ups_succ {n : Int} (h : 0 ≤ n) : ups (n + 1) = false :: ups n := by
  unfold ups
  rw [show (n + 1).toNat = n.toNat + 1 by omega, List.replicate_succ]
theorem ups0 : ups 0 = [] := rfl
theorem path_row : ∀ (p : List Bool) (h : Int), pmid h (rowF h p) ++ ups (h + nF p - plast h (rowF h p)) = p
  | [], h => by
    have e : h + ((nF [] : Nat) : Int) - plast h (rowF h []) = 0 := by simp [nF, plast, rowF]
    rw [e]
    rfl
  | true :: p, h => by
    have ih := path_row p h
    have e : nF (true :: p) = nF p := by simp [nF]
    rw [rowF, pmid, plast, e, show h - h = 0 by omega, ups0, List.nil_append, List.cons_append, ih]
  | false :: p, h => by
    have ih := path_row p (h + 1)
    have e : nF (false :: p) = nF p + 1 := by simp [nF]
    rw [rowF, e]
    have bd := rowF_bd p (h + 1)
    revert ih bd
    generalize rowF (h + 1) p = r
    intro ih bd
    cases r with
    | nil =>
      rw [pmid, plast, List.nil_append] at ih ⊢
      rw [show h + ((nF p + 1 : Nat) : Int) - h = (nF p : Int) + 1 by omega, ups_succ (by omega)]
      rw [show h + 1 + (nF p : Int) - (h + 1) = nF p by omega] at ih
      rw [ih]
    | cons x xs =>
      have b := bd x (List.mem_cons_self ..)
      rw [pmid, plast] at ih ⊢
      rw [show x - h = (x - (h + 1)) + 1 by omega, ups_succ (by omega)]
      rw [show h + ((nF p + 1 : Nat) : Int) = h + 1 + nF p by omega]
      rw [List.cons_append, List.cons_append, ih]
theorem pathF_row {p : List Bool} {c : Nat} (h : nF p = c) : pathF c (rowOf p) = p := by
  unfold pathF rowOf
  rw [List.reverse_reverse]
  have := path_row p 0
  rwa [Int.zero_add, h] at this
theorem rowF_ups (h : Int) (q : List Bool) : ∀ (n : Nat), rowF h (List.replicate n false ++ q) = rowF (h + n) q
  | 0 => by simp
  | n + 1 => by
    rw [List.replicate_succ, List.cons_append, rowF]
    rw [rowF_ups (h + 1) q n]
    congr 1
    omega
/-- a list that rises -/
def Rises (h : Int) : List Int → Prop
  | [] => True
  | x :: xs => h ≤ x ∧ Rises x xs
theorem rowF_path (n : Int) : ∀ (xs : List Int) (h : Int), Rises h xs → rowF h (pmid h xs ++ ups n) = xs
  | [], h, _ => by
    rw [pmid, List.nil_append]
    unfold ups
    have := rowF_ups h [] n.toNat
    rw [List.append_nil] at this
    rw [this]
    rfl
  | x :: xs, h, ⟨h1, h2⟩ => by
    rw [pmid, List.append_assoc]
    unfold ups
    rw [rowF_ups]
    rw [show h + ((x - h).toNat : Int) = x by omega, List.cons_append, rowF]
    have := rowF_path n xs x h2
    unfold ups at this
    rw [this]
theorem row_pathF {row : List Int} {c : Int} (h : Rises 0 row.reverse) : rowOf (pathF c row) = row := by
  unfold rowOf pathF
  rw [rowF_path _ _ _ h, List.reverse_reverse]
/-! ### the points -/
theorem pts_sum : ∀ (p : List Bool) (x y : Int) (q : Int × Int), q ∈ pts x y p → x + y < q.1 + q.2
  | [], x, y, q, h => by cases h
  | l :: p, x, y, q, h => by
    rw [pts_cons] at h
    have e : (nxt x y l).1 + (nxt x y l).2 = x + y + 1 := by cases l <;> simp [nxt] <;> omega
    rcases List.mem_cons.mp h with r | r
    · rw [r]; omega
    · have := pts_sum p _ _ q r
      omega
theorem pts_nodup : ∀ (p : List Bool) (x y : Int), ((x, y) :: pts x y p).Nodup
  | [], x, y => by simp [pts]
  | l :: p, x, y => by
    rw [List.nodup_cons]
    refine ⟨fun h => ?_, ?_⟩
    · have := pts_sum _ _ _ _ h
      simp at this
    · rw [pts_cons]
      exact pts_nodup p _ _
theorem ptsI_nodup (i : Nat) (p : List Bool) : (ptsI i p).Nodup := pts_nodup ..
def allPts : Nat → List (List Bool) → List (Int × Int)
  | _, [] => []
  | i, p :: ps => ptsI i p ++ allPts (i + 1) ps
theorem meet_iff : ∀ (ps : List (List Bool)) (i : Nat) (seen : List (Int × Int)), seen.Nodup → (meetF seen i ps = false ↔ (seen ++ allPts i ps).Nodup)
  | [], i, seen, h => by simp [meetF, allPts, h]
  | p :: ps, i, seen, h => by
    rw [meetF, allPts, ← List.append_assoc]
    by_cases q : (ptsI i p).any (fun q => decide (q ∈ seen)) = true
    · rw [if_pos q]
      obtain ⟨z, z1, z2⟩ := List.any_eq_true.mp q
      rw [decide_eq_true_eq] at z2
      constructor
      · intro w; cases w
      · intro w
        have := (List.nodup_append.mp (List.nodup_append.mp w).1).2.2 z z2 z z1
        exact absurd rfl this
    · rw [if_neg q]
      refine meet_iff ps (i + 1) _ ?_
      rw [List.nodup_append]
      refine ⟨h, ptsI_nodup _ _, fun a ha b hb e => ?_⟩
      subst e
      exact q (List.any_eq_true.mpr ⟨a, hb, by rw [decide_eq_true_eq]; exact ha⟩)
theorem meet_nodup (ps : List (List Bool)) : meetF [] 0 ps = !decide (allPts 0 ps).Nodup := by
  have := meet_iff ps 0 [] List.nodup_nil
  rw [List.nil_append] at this
  by_cases h : (allPts 0 ps).Nodup
  · rw [this.mpr h]; simp [h]
  · cases e : meetF [] 0 ps with
    | false => exact absurd (this.mp e) h
    | true => simp [h]
theorem meet_out : ∀ (ps : List (List Bool)) (i : Nat) (seen : List (Int × Int)), meetF seen i ps = true → ∃ (j : Nat) (p : List Bool) (q : Int × Int), ps[j]? = some p ∧ q ∈ ptsI (i + j) p ∧ (q ∈ seen ∨ ∃ (j' : Nat) (p' : List Bool), j' < j ∧ ps[j']? = some p' ∧ q ∈ ptsI (i + j') p')
  | [], i, seen, h => by cases h
  | p :: ps, i, seen, h => by
    rw [meetF] at h
    by_cases q : (ptsI i p).any (fun q => decide (q ∈ seen)) = true
    · obtain ⟨z, z1, z2⟩ := List.any_eq_true.mp q
      rw [decide_eq_true_eq] at z2
      exact ⟨0, p, z, rfl, z1, .inl z2⟩
    · rw [if_neg q] at h
      obtain ⟨j, p1, q1, h1, h2, h3⟩ := meet_out ps (i + 1) _ h
      rw [show i + 1 + j = i + (j + 1) by omega] at h2
      refine ⟨j + 1, p1, q1, by simpa using h1, h2, ?_⟩
      rcases h3 with h3 | ⟨j', p', h4, h5, h6⟩
      · rcases List.mem_append.mp h3 with h3 | h3
        · exact .inl h3
        · exact .inr ⟨0, p, by omega, rfl, h3⟩
      · rw [show i + 1 + j' = i + (j' + 1) by omega] at h6
        exact .inr ⟨j' + 1, p', by omega, by simpa using h5, h6⟩
theorem pts_ups (x : Int) (p : List Bool) (q : Int × Int) : ∀ (n : Nat) (y : Int), q ∈ (x, y) :: pts x y (List.replicate n false ++ p) → (q.1 = x ∧ y ≤ q.2 ∧ q.2 ≤ y + n) ∨ q ∈ pts x (y + n) p
  | 0, y, h => by
    rw [List.replicate_zero, List.nil_append] at h
    rcases List.mem_cons.mp h with r | r
    · left; rw [r]; simp
    · right; simpa using r
  | n + 1, y, h => by
    rw [List.replicate_succ, List.cons_append, pts] at h
    rcases List.mem_cons.mp h with r | r
    · left; rw [r]; simp; omega
    · rcases pts_ups x p q n (y + 1) r with ⟨h1, h2, h3⟩ | h1
      · left; exact ⟨h1, by omega, by omega⟩
      · right
        rwa [show y + ((n + 1 : Nat) : Int) = y + 1 + n by omega]
/-- where the points of a path are -/
theorem pts_where (c y0 : Int) (q : Int × Int) : ∀ (xs : List Int) (h x : Int), Rises h (xs ++ [c]) → q ∈ (x, y0 + h) :: pts x (y0 + h) (pmid h xs ++ ups (c - plast h xs)) →
    ∃ (t : Nat) (lo hi : Int), q.1 = x + t ∧ (h :: xs)[t]? = some lo ∧ (xs ++ [c])[t]? = some hi ∧ lo ≤ q.2 - y0 ∧ q.2 - y0 ≤ hi
  | [], h, x, ⟨hc, _⟩, hq => by
    rw [pmid, plast, List.nil_append] at hq
    unfold ups at hq
    have hq' := pts_ups x [] q (c - h).toNat (y0 + h) (by rwa [List.append_nil])
    rcases hq' with ⟨h1, h2, h3⟩ | h1
    · exact ⟨0, h, c, by simpa using h1, rfl, rfl, by omega, by omega⟩
    · cases h1
  | z :: zs, h, x, ⟨hz, hr⟩, hq => by
    rw [pmid, plast, List.append_assoc] at hq
    unfold ups at hq
    have hq' := pts_ups x _ q (z - h).toNat (y0 + h) hq
    rcases hq' with ⟨h1, h2, h3⟩ | h1
    · exact ⟨0, h, z, by simpa using h1, rfl, rfl, by omega, by omega⟩
    · rw [List.cons_append, pts] at h1
      rw [show y0 + h + ((z - h).toNat : Int) = y0 + z by omega] at h1
      obtain ⟨t, lo, hi, a1, a2, a3, a4, a5⟩ := pts_where c y0 q zs z (x + 1) hr h1
      exact ⟨t + 1, lo, hi, by rw [a1]; omega, by simpa using a2, by simpa using a3, a4, a5⟩
end TW


set_option linter.all false
set_option maxRecDepth 100000
set_option maxHeartbeats 1000000
namespace TW
open PySem L2
theorem Heap.rowM {a b c : Nat} {g : Nat → Nat → Int} (H : Heap a b c g) {i j : Nat} (hi : i < a) : ∀ (n : Nat), j + n < b → g i (j + n) ≤ g i j
  | 0, _ => by simp
  | n + 1, h => by
    have := H.rowM (j := j) hi n (by omega)
    have := H.row i (j + n) hi (by omega)
    rw [show j + (n + 1) = j + n + 1 by omega]
    omega
theorem Heap.colM {a b c : Nat} {g : Nat → Nat → Int} (H : Heap a b c g) {i j : Nat} (hj : j < b) : ∀ (n : Nat), i + n < a → g (i + n) j ≤ g i j
  | 0, _ => by simp
  | n + 1, h => by
    have := H.colM (i := i) hj n (by omega)
    have := H.col (i + n) j (by omega) hj
    rw [show i + (n + 1) = i + n + 1 by omega]
    omega
/-- rows as they are read -/
def upR (b : Nat) (f : Nat → Int) : List Int := tb b fun t => f (b - 1 - t)
theorem tb_rev' (b : Nat) (f : Nat → Int) : (tb b f).reverse = upR b f := tb_rev ..
theorem rises_of : ∀ (l : List Int) (h : Int), (∀ x, l[0]? = some x → h ≤ x) → (∀ (i : Nat) x y, l[i]? = some x → l[i + 1]? = some y → x ≤ y) → Rises h l
  | [], _, _, _ => trivial
  | x :: l, h, h1, h2 => ⟨h1 x rfl, rises_of l x (fun y hy => h2 0 x y rfl (by simpa using hy)) fun i u v hu hv => h2 (i + 1) u v (by simpa using hu) (by simpa using hv)⟩
theorem upR_get {b : Nat} {f : Nat → Int} {t : Nat} (h : t < b) : (upR b f)[t]? = some (f (b - 1 - t)) := tb_get h
theorem upR_c_get {b : Nat} {f : Nat → Int} {c : Int} {t : Nat} {x : Int} (h : (upR b f ++ [c])[t]? = some x) : (t < b ∧ x = f (b - 1 - t)) ∨ (t = b ∧ x = c) := by
  have l : (upR b f).length = b := tb_len ..
  by_cases q : t < b
  · rw [List.getElem?_append_left (by omega), upR_get q] at h
    cases h
    exact .inl ⟨q, rfl⟩
  · rw [List.getElem?_append_right (by omega), l] at h
    by_cases q2 : t = b
    · subst q2
      rw [Nat.sub_self] at h
      cases h
      exact .inr ⟨rfl, rfl⟩
    · have : t - b = (t - b - 1) + 1 := by omega
      rw [this] at h
      simp at h
theorem heap_rises {a b c : Nat} {g : Nat → Nat → Int} (H : Heap a b c g) {i : Nat} (hi : i < a) : Rises 0 (upR b (g i) ++ [(c : Int)]) := by
  refine rises_of _ _ (fun x hx => ?_) fun t x y hx hy => ?_
  · rcases upR_c_get hx with ⟨h1, h2⟩ | ⟨h1, h2⟩
    · rw [h2]; exact H.lo i _ hi (by omega)
    · rw [h2]; omega
  · rcases upR_c_get hx with ⟨h1, h2⟩ | ⟨h1, h2⟩
    · rcases upR_c_get hy with ⟨h3, h4⟩ | ⟨h3, h4⟩
      · rw [h2, h4]
        have := H.row i (b - 1 - (t + 1)) hi (by omega)
        rwa [show b - 1 - (t + 1) + 1 = b - 1 - t by omega] at this
      · rw [h2, h4]; exact H.hi i _ hi (by omega)
    · rcases upR_c_get hy with ⟨h3, h4⟩ | ⟨h3, h4⟩ <;> omega
theorem rises_less : ∀ (l : List Int) (h c : Int), Rises h (l ++ [c]) → Rises h l
  | [], _, _, _ => trivial
  | x :: l, h, c, ⟨h1, h2⟩ => ⟨h1, rises_less l x c h2⟩
def rowsH (a b : Nat) (g : Nat → Nat → Int) : List (List Int) := tb a fun i => tb b (g i)
def pathsF (c : Nat) (l : List (List Int)) : List (List Bool) := l.map (pathF c)
theorem heap_path_where {a b c : Nat} {g : Nat → Nat → Int} (H : Heap a b c g) {i : Nat} (hi : i < a) {q : Int × Int} (hq : q ∈ ptsI i (pathF c (tb b (g i)))) :
    ∃ t : Nat, q.1 = i + t ∧ t ≤ b ∧ (0 < t → g i (b - t) ≤ q.2 + i) ∧ (t < b → q.2 + i ≤ g i (b - 1 - t)) := by
  unfold pathF at hq
  rw [tb_rev'] at hq
  unfold ptsI at hq
  have := pts_where c (-(i : Int)) q (upR b (g i)) 0 i (heap_rises H hi) (by rwa [Int.add_zero])
  obtain ⟨t, lo, hi', h1, h2, h3, h4, h5⟩ := this
  refine ⟨t, h1, ?_, fun ht => ?_, fun ht => ?_⟩
  · rcases upR_c_get h3 with h | h <;> omega
  · obtain ⟨s, rfl⟩ : ∃ s, t = s + 1 := ⟨t - 1, by omega⟩
    rw [List.getElem?_cons_succ] at h2
    have hs : s < b := by
      have := (List.getElem?_eq_some_iff.mp h2).1
      have l : (upR b (g i)).length = b := tb_len ..
      omega
    rw [upR_get hs] at h2
    cases h2
    rw [show b - (s + 1) = b - 1 - s by omega]
    omega
  · rcases upR_c_get h3 with ⟨h6, h7⟩ | h
    · omega
    · omega
theorem heap_no_meet {a b c : Nat} {g : Nat → Nat → Int} (H : Heap a b c g) : meetF [] 0 (pathsF c (rowsH a b g)) = false := by
  rw [← Bool.not_eq_true]
  intro h
  obtain ⟨k, p, q, h1, h2, h3⟩ := meet_out _ _ _ h
  rcases h3 with h3 | ⟨i, p', h4, h5, h6⟩
  · cases h3
  · have L : (pathsF c (rowsH a b g)).length = a := by unfold pathsF rowsH; rw [List.length_map, tb_len]
    have hk : k < a := by have := (List.getElem?_eq_some_iff.mp h1).1; omega
    have get : ∀ j, j < a → (pathsF c (rowsH a b g))[j]? = some (pathF c (tb b (g j))) := fun j hj => by
      unfold pathsF rowsH
      rw [tb_map, tb_get hj]
    rw [get k hk] at h1
    rw [get i (by omega)] at h5
    cases h1
    cases h5
    rw [Nat.zero_add] at h2 h6
    obtain ⟨s, a1, a2, a3, a4⟩ := heap_path_where H hk h2
    obtain ⟨t, b1, b2, b3, b4⟩ := heap_path_where H (show i < a by omega) h6
    have ht : t = s + (k - i) := by omega
    have e1 := b3 (by omega)
    have e2 := a4 (by omega)
    have m1 := H.colM (i := i) (j := b - 1 - s) (by omega) (k - i) (by omega)
    rw [show i + (k - i) = k by omega] at m1
    have m2 := H.rowM (i := i) (j := b - t) (by omega) (b - 1 - s - (b - t)) (by omega)
    rw [show b - t + (b - 1 - s - (b - t)) = b - 1 - s by omega] at m2
    omega
theorem heap_row_path {a b c : Nat} {g : Nat → Nat → Int} (H : Heap a b c g) {i : Nat} (hi : i < a) : rowOf (pathF c (tb b (g i))) = tb b (g i) := by
  refine row_pathF ?_
  rw [tb_rev']
  exact rises_less _ _ _ (heap_rises H hi)
theorem nT_app (p q : List Bool) : nT (p ++ q) = nT p + nT q := by simp [nT]
theorem nF_app (p q : List Bool) : nF (p ++ q) = nF p + nF q := by simp [nF]
theorem nF_ups (n : Int) : nF (ups n) = n.toNat := by simp [nF, ups]
theorem nT_ups (n : Int) : nT (ups n) = 0 := by simp [nT, ups, List.count_replicate]
theorem pmid_counts : ∀ (xs : List Int) (h c : Int), Rises h (xs ++ [c]) → nT (pmid h xs) = xs.length ∧ (nF (pmid h xs) : Int) = plast h xs - h ∧ h ≤ plast h xs ∧ plast h xs ≤ c
  | [], h, c, ⟨h1, _⟩ => ⟨rfl, by simp [plast, nF, pmid], by simp [plast], by simpa [plast] using h1⟩
  | x :: xs, h, c, ⟨h1, h2⟩ => by
    obtain ⟨a1, a2, a3, a4⟩ := pmid_counts xs x c h2
    rw [pmid, plast, nT_app, nF_app, nT_ups, nF_ups]
    have e1 : nT (true :: pmid x xs) = nT (pmid x xs) + 1 := by simp [nT]
    have e2 : nF (true :: pmid x xs) = nF (pmid x xs) := by simp [nF]
    rw [e1, e2, List.length_cons]
    omega
theorem path_counts {a b c : Nat} {g : Nat → Nat → Int} (H : Heap a b c g) {i : Nat} (hi : i < a) : nT (pathF c (tb b (g i))) = b ∧ nF (pathF c (tb b (g i))) = c := by
  unfold pathF
  rw [tb_rev']
  obtain ⟨a1, a2, a3, a4⟩ := pmid_counts _ _ _ (heap_rises H hi)
  have l : (upR b (g i)).length = b := tb_len ..
  rw [nT_app, nF_app, nT_ups, nF_ups]
  omega
end TW


set_option linter.all false
set_option maxRecDepth 100000
set_option maxHeartbeats 1000000
namespace TW
open PySem L2
theorem po2_step {v0 v1 : Option M} {acc : List (Int × Int)} {x y : Int} (l : Bool) (hl : acc.length < 1000000) :
    s_points_of_f0 [v0, v1, some (.ml ((acc.map ptD).map .fz)), some (.fz (lt l)), some (.fz (.int x)), some (.fz (.int y))] = .ok (.nx, [v0, v1, some (.ml (((acc ++ [nxt x y l]).map ptD).map .fz)), some (.fz (lt l)), some (.fz (.int (nxt x y l).1)), some (.fz (.int (nxt x y l).2))]) := by
  unfold s_points_of_f0
  have l1 : acc.length < 16777216 := by omega
  have e : (acc ++ [nxt x y l]).map ptD = acc.map ptD ++ [ptD (nxt x y l)] := by simp
  rw [e]
  cases l
  · simp [-List.map_map, eqOn, oSm, sMut, kApp, l1, nxt, ptD]
  · simp [-List.map_map, eqOn, oSm, sMut, kApp, l1, nxt, ptD]
theorem po2_loop {v0 v1 : Option M} : ∀ (p : List Bool) (acc : List (Int × Int)) (x y : Int) (v3 : Option M), acc.length + p.length < 1000000 →
    ∃ w3 w4 w5, forLoop (gN 3) s_points_of_f0 (ltD p) [v0, v1, some (.ml ((acc.map ptD).map .fz)), v3, some (.fz (.int x)), some (.fz (.int y))] = .ok (.nx, [v0, v1, some (.ml (((acc ++ pts x y p).map ptD).map .fz)), w3, w4, w5])
  | [], acc, x, y, v3, _ => ⟨v3, _, _, by rw [pts, List.append_nil]; rfl⟩
  | l :: p, acc, x, y, v3, hl => by
    rw [List.length_cons] at hl
    obtain ⟨w3, w4, w5, e⟩ := po2_loop (v0 := v0) (v1 := v1) p (acc ++ [nxt x y l]) (nxt x y l).1 (nxt x y l).2 (some (.fz (lt l))) (by simp; omega)
    refine ⟨w3, w4, w5, ?_⟩
    show forLoop (gN 3) s_points_of_f0 (lt l :: ltD p) _ = _
    rw [forLoop]
    show (match s_points_of_f0 [v0, v1, some (.ml ((acc.map ptD).map .fz)), some (.fz (lt l)), some (.fz (.int x)), some (.fz (.int y))] with | .ok (.nx, ev2) => forLoop (gN 3) s_points_of_f0 (ltD p) ev2 | .ok (.ct, ev2) => forLoop (gN 3) s_points_of_f0 (ltD p) ev2 | .ok (.bk, ev2) => .ok (.nx, ev2) | .ok (.rt m, ev2) => .ok (.rt m, ev2) | .exc c => .exc c | .no => .no) = _
    rw [po2_step l (by omega)]
    show forLoop (gN 3) s_points_of_f0 (ltD p) _ = _
    rw [e, pts_cons, List.append_assoc]
    rfl
@[simp] theorem e_neg (i : Int) : sNeg (.int i) = sret (.int (-i)) := rfl
theorem points_of_ok (i : Nat) (p : List Bool) (hp : p.length ≤ 1000) : F_points_of [.fz (.int i), .fz (pathD p)] = .ok (.ml (((ptsI i p).map ptD).map .fz), [some (.fz (.int i)), some (.fz (pathD p))]) := by
  obtain ⟨w3, w4, w5, e⟩ := po2_loop (v0 := some (.fz (.int i))) (v1 := some (.fz (pathD p))) p [((i : Int), -(i : Int))] i (-(i : Int)) none (by rw [List.length_singleton]; omega)
  have q : [((i : Int), -(i : Int))] ++ pts i (-(i : Int)) p = ptsI i p := rfl
  rw [q] at e
  have key : s_points_of [some (.fz (.int i)), some (.fz (pathD p)), none, none, none, none] = .ok (.rt (.ml (((ptsI i p).map ptD).map .fz)), [some (.fz (.int i)), some (.fz (pathD p)), none, w3, w4, w5]) := by
    unfold s_points_of
    refine seq_ok (e := [some (.fz (.int i)), some (.fz (pathD p)), none, none, some (.fz (.int i)), some (.fz (.int (-(i : Int))))]) (by simp) ?_
    refine seq_ok (e := [some (.fz (.int i)), some (.fz (pathD p)), some (.ml (([((i : Int), -(i : Int))].map ptD).map .fz)), none, some (.fz (.int i)), some (.fz (.int (-(i : Int))))]) (by simp [ptD]) ?_
    refine seq_ok (for_ok (items := ltD p) (e := [some (.fz (.int i)), some (.fz (pathD p)), some (.ml (([((i : Int), -(i : Int))].map ptD).map .fz)), none, some (.fz (.int i)), some (.fz (.int (-(i : Int))))]) (by simp) e) ?_
    simp [-List.map_map, vM]
  have k2 := run_rt (N := 6) (n := 2) (pin := [0, 1]) (body := s_points_of) (ms := [.fz (.int i), .fz (pathD p)]) key
  rw [outs2] at k2
  exact k2
theorem ro_loop {v0 : Option M} : ∀ (p : List Bool) (acc : List Int) (h : Int) (v1 : Option M), acc.length + p.length < 1000000 →
    ∃ w1 w3, forLoop (gN 1) s_row_of_f0 (ltD p) [v0, v1, some (.ml ((acc.map .int).map .fz)), some (.fz (.int h))] = .ok (.nx, [v0, w1, some (.ml (((acc ++ rowF h p).map .int).map .fz)), w3])
  | [], acc, h, v1, _ => ⟨v1, _, by rw [rowF, List.append_nil]; rfl⟩
  | true :: p, acc, h, v1, hl => by
    rw [List.length_cons] at hl
    obtain ⟨w1, w3, e⟩ := ro_loop (v0 := v0) p (acc ++ [h]) h (some (.fz (lt true))) (by simp; omega)
    refine ⟨w1, w3, ?_⟩
    show forLoop (gN 1) s_row_of_f0 (lt true :: ltD p) _ = _
    rw [forLoop]
    have S : s_row_of_f0 [v0, some (.fz (lt true)), some (.ml ((acc.map .int).map .fz)), some (.fz (.int h))] = .ok (.nx, [v0, some (.fz (lt true)), some (.ml (((acc ++ [h]).map .int).map .fz)), some (.fz (.int h))]) := by
      unfold s_row_of_f0
      have l1 : acc.length < 16777216 := by omega
      have e : (acc ++ [h]).map PyData.int = acc.map .int ++ [.int h] := by simp
      rw [e]
      simp [-List.map_map, eqUp, oSm, sMut, kApp, l1]
    show (match s_row_of_f0 [v0, some (.fz (lt true)), some (.ml ((acc.map .int).map .fz)), some (.fz (.int h))] with | .ok (.nx, ev2) => forLoop (gN 1) s_row_of_f0 (ltD p) ev2 | .ok (.ct, ev2) => forLoop (gN 1) s_row_of_f0 (ltD p) ev2 | .ok (.bk, ev2) => .ok (.nx, ev2) | .ok (.rt m, ev2) => .ok (.rt m, ev2) | .exc c => .exc c | .no => .no) = _
    rw [S]
    show forLoop (gN 1) s_row_of_f0 (ltD p) _ = _
    rw [e, rowF, List.append_assoc]
    rfl
  | false :: p, acc, h, v1, hl => by
    rw [List.length_cons] at hl
    obtain ⟨w1, w3, e⟩ := ro_loop (v0 := v0) p acc (h + 1) (some (.fz (lt false))) (by omega)
    refine ⟨w1, w3, ?_⟩
    show forLoop (gN 1) s_row_of_f0 (lt false :: ltD p) _ = _
    rw [forLoop]
    have S : s_row_of_f0 [v0, some (.fz (lt false)), some (.ml ((acc.map .int).map .fz)), some (.fz (.int h))] = .ok (.nx, [v0, some (.fz (lt false)), some (.ml ((acc.map .int).map .fz)), some (.fz (.int (h + 1)))]) := by
      unfold s_row_of_f0
      simp [-List.map_map, eqUp, sAug, augI]
    show (match s_row_of_f0 [v0, some (.fz (lt false)), some (.ml ((acc.map .int).map .fz)), some (.fz (.int h))] with | .ok (.nx, ev2) => forLoop (gN 1) s_row_of_f0 (ltD p) ev2 | .ok (.ct, ev2) => forLoop (gN 1) s_row_of_f0 (ltD p) ev2 | .ok (.bk, ev2) => .ok (.nx, ev2) | .ok (.rt m, ev2) => .ok (.rt m, ev2) | .exc c => .exc c | .no => .no) = _
    rw [S]
    show forLoop (gN 1) s_row_of_f0 (ltD p) _ = _
    rw [e]
    rfl
theorem rev_L (l : List PyData) : sRev (.list l) = sret (.ml (l.reverse.map .fz)) := rfl
theorem row_of_ok (p : List Bool) (hp : p.length ≤ 1000) : F_row_of [.fz (pathD p)] = .ok (.fz (rowL (rowOf p)), [some (.fz (pathD p))]) := by
  obtain ⟨w1, w3, e⟩ := ro_loop (v0 := some (.fz (pathD p))) p [] 0 none (by simp only [List.length_nil]; omega)
  have key : s_row_of [some (.fz (pathD p)), none, none, none] = .ok (.rt (.fz (rowL (rowOf p))), [some (.fz (pathD p)), w1, some (.ml (((rowF 0 p).map .int).map .fz)), w3]) := by
    unfold s_row_of
    refine seq_ok (e := [some (.fz (pathD p)), none, some (.ml []), some (.fz (.int 0))]) (by simp) ?_
    refine seq_ok (for_ok (items := ltD p) (e := [some (.fz (pathD p)), none, some (.ml []), some (.fz (.int 0))]) (by simp) e) ?_
    simp [-List.map_map, rev_L, -List.map_reverse]
    show PyData.tuple ((rowF 0 p).map .int).reverse = rowL (rowOf p)
    rw [← List.map_reverse]
    rfl
  have k2 := run_rt (N := 4) (n := 1) (pin := [0]) (body := s_row_of) (ms := [.fz (pathD p)]) key
  rw [outs1] at k2
  exact k2
end TW


set_option linter.all false
set_option maxRecDepth 100000
set_option maxHeartbeats 1000000
namespace TW
open PySem L2
theorem tl_midA {α : Type} {F : α → PyData} {vs : List Nat} {g : PyData → Ev → Option Ev} {tt : Sm Bool} {tl : TLs (List M)} {fi : Sm (List PyData)} {ev ev1 : Ev} {items : List α} {acc : List M} (out : α → List M) (hfi : fi ev = .ok (items.map F, ev1)) (hb : acc.length + (items.flatMap out).length ≤ 1000000)
    (H : ∀ d ∈ items, ∀ acc : List M, acc.length + (out d).length ≤ 1000000 → ∃ e, g (F d) (wipeE ev1 vs) = some e ∧ ((tt e = .ok (true, e) ∧ ∃ e2, tl acc e = some (acc ++ out d, e2) ∧ wipeE e2 vs = wipeE ev1 vs) ∨ (tt e = .ok (false, e) ∧ out d = [] ∧ wipeE e vs = wipeE ev1 vs))) :
    tlMid vs g tt tl fi acc ev = some (acc ++ items.flatMap out, wipeE ev1 vs) := by
  unfold tlMid
  rw [hfi]
  exact loop_flatA items acc hb H
theorem enI_map (ps : List (List Bool)) : enI (ps.map pathD) = ps.zipIdx.map fun q => .tuple [.int (q.2 : Nat), pathD q.1] := by
  unfold enI
  rw [List.zipIdx_map, List.map_map]
  rfl
theorem flat_pts : ∀ (ps : List (List Bool)) (i : Nat), (ps.zipIdx i).flatMap (fun q => ((ptsI q.2 q.1).map ptD).map M.fz) = ((allPts i ps).map ptD).map .fz
  | [], i => rfl
  | p :: ps, i => by
    rw [List.zipIdx_cons, List.flatMap_cons, flat_pts ps (i + 1), allPts, List.map_append, List.map_append]
theorem allPts_len (n : Nat) : ∀ (ps : List (List Bool)) (i : Nat), (∀ p ∈ ps, p.length ≤ n) → (allPts i ps).length ≤ ps.length * (n + 1)
  | [], i, _ => by simp [allPts]
  | p :: ps, i, h => by
    have h1 := h p (List.mem_cons_self ..)
    have h2 := allPts_len n ps (i + 1) fun q hq => h q (List.mem_cons_of_mem _ hq)
    rw [allPts, List.length_append, ptsI_len, List.length_cons, Nat.add_mul]
    omega
theorem ho_points {v0 v2 v3 v4 v5 : Option M} {ps : List (List Bool)} (hp : ∀ p ∈ ps, p.length ≤ 100) (hn : ps.length ≤ 100) :
    s_heap_of_c5 [v0, some (.fz (.tuple (ps.map pathD))), v2, v3, v4, v5, none, none, none] = .ok (.ml (((allPts 0 ps).map ptD).map .fz), [v0, some (.fz (.tuple (ps.map pathD))), v2, v3, v4, v5, none, none, none]) := by
  have L := allPts_len 100 ps 0 hp
  have L2 : ps.length * (100 + 1) ≤ 100 * 101 := Nat.mul_le_mul_right _ hn
  have k := lg_flatA (α := List Bool × Nat) (F := fun q => .tuple [.int (q.2 : Nat), pathD q.1]) (vs := [6, 7, 8]) (g := gT 2 (gsC (gN 7) (gsC (gN 8) gsN))) (tt := sret true) (tl := tlMid [6] (gN 6) (sret true) (tlLast s_heap_of_e4) (bd (bd (sCall F_points_of (sArgV (vF 7) (sArgV (vF 8) (sret [])))) fun m => sopt (frz m)) sItems)) (fi := bd (vF 1) sEnum)
    (ev := [v0, some (.fz (.tuple (ps.map pathD))), v2, v3, v4, v5, none, none, none]) (ev1 := [v0, some (.fz (.tuple (ps.map pathD))), v2, v3, v4, v5, none, none, none]) (items := ps.zipIdx)
    (fun q => ((ptsI q.2 q.1).map ptD).map M.fz) (by rw [← enI_map]; simp; rfl) rfl (by rw [flat_pts, List.length_map, List.length_map]; omega)
    (fun q hq acc hl => by
      obtain ⟨p, i⟩ := q
      have hpm : p ∈ ps := (List.mem_zipIdx hq).2.2 ▸ List.getElem_mem _
      refine ⟨[v0, some (.fz (.tuple (ps.map pathD))), v2, v3, v4, v5, none, some (.fz (.int i)), some (.fz (pathD p))], rfl, .inl ⟨rfl, [v0, some (.fz (.tuple (ps.map pathD))), v2, v3, v4, v5, none, some (.fz (.int i)), some (.fz (pathD p))], ?_, rfl⟩⟩
      have PO := points_of_ok i p (by have := hp p hpm; omega)
      have k2 := tl_midA (α := Int × Int) (F := ptD) (vs := [6]) (g := gN 6) (tt := sret true) (tl := tlLast s_heap_of_e4) (fi := bd (bd (sCall F_points_of (sArgV (vF 7) (sArgV (vF 8) (sret [])))) fun m => sopt (frz m)) sItems) (acc := acc)
        (ev := [v0, some (.fz (.tuple (ps.map pathD))), v2, v3, v4, v5, none, some (.fz (.int i)), some (.fz (pathD p))]) (ev1 := [v0, some (.fz (.tuple (ps.map pathD))), v2, v3, v4, v5, none, some (.fz (.int i)), some (.fz (pathD p))]) (items := ptsI i p)
        (fun z => [.fz (ptD z)]) (by simp [-List.map_map, slotsOf, resA, putA, PO])
        (by
          have e : (((ptsI i p).map ptD).map M.fz).length = (ptsI i p).length := by simp
          rw [e] at hl
          have e2 : ((ptsI i p).flatMap fun z => [M.fz (ptD z)]).length = (ptsI i p).length := by rw [flat_one, List.length_map]
          rw [e2]
          exact hl)
        (fun z hz acc hl => ⟨[v0, some (.fz (.tuple (ps.map pathD))), v2, v3, v4, v5, some (.fz (ptD z)), some (.fz (.int i)), some (.fz (pathD p))], rfl, .inl ⟨rfl, [v0, some (.fz (.tuple (ps.map pathD))), v2, v3, v4, v5, some (.fz (ptD z)), some (.fz (.int i)), some (.fz (pathD p))], tl_last (by rw [List.length_singleton] at hl; omega) (by unfold s_heap_of_e4; simp), rfl⟩⟩)
      rw [k2, flat_one, List.map_map]
      rfl) rfl
  rw [flat_pts] at k
  exact k
def ddF : List (Int × Int) → List (Int × Int) → List (Int × Int)
  | acc, [] => acc
  | acc, q :: l => if q ∈ acc then ddF acc l else ddF (acc ++ [q]) l
theorem dd_len : ∀ (l acc : List (Int × Int)), (ddF acc l).length ≤ acc.length + l.length ∧ ((ddF acc l).length = acc.length + l.length ↔ l.Nodup ∧ ∀ q ∈ l, q ∉ acc)
  | [], acc => by simp [ddF]
  | q :: l, acc => by
    rw [ddF]
    by_cases h : q ∈ acc
    · rw [if_pos h, List.length_cons]
      have := (dd_len l acc).1
      refine ⟨by omega, ⟨fun e => by omega, fun e => absurd h (e.2 q (List.mem_cons_self ..))⟩⟩
    · rw [if_neg h, List.length_cons]
      obtain ⟨h1, h2⟩ := dd_len l (acc ++ [q])
      rw [List.length_append, List.length_singleton] at h1 h2
      refine ⟨by omega, ?_⟩
      rw [show acc.length + (l.length + 1) = acc.length + 1 + l.length by omega, h2, List.nodup_cons]
      constructor
      · rintro ⟨a1, a2⟩
        refine ⟨⟨fun hq => ?_, a1⟩, fun z hz => ?_⟩
        · exact a2 q hq (by simp)
        · rcases List.mem_cons.mp hz with r | r
          · rw [r]; exact h
          · exact fun w => a2 z r (by simp [w])
      · rintro ⟨⟨a1, a2⟩, a3⟩
        refine ⟨a2, fun z hz w => ?_⟩
        rcases List.mem_append.mp w with r | r
        · exact a3 z (List.mem_cons_of_mem _ hz) r
        · rw [List.mem_singleton] at r
          subst r
          exact a1 hz
theorem key_pt (p : Int × Int) : keyOf (ptD p) = some (.tup [.num p.1, .num p.2]) := rfl
def enc (l : List (Int × Int)) : List (PyData × PyData) := l.map fun q => (ptD q, .bool true)
theorem put_enc (acc : List (Int × Int)) (q : Int × Int) : putD (enc acc) (.tup [.num q.1, .num q.2]) (ptD q) (.bool true) = enc (if q ∈ acc then acc else acc ++ [q]) := by
  have hk : ∀ z : Int × Int, (keyOf (ptD z) = some (.tup [.num q.1, .num q.2])) ↔ z = q := by
    intro z
    rw [key_pt]
    obtain ⟨a, b⟩ := z
    obtain ⟨c, d⟩ := q
    simp
  unfold putD
  have ha : (enc acc).any (fun p => decide (keyOf p.1 = some (.tup [.num q.1, .num q.2]))) = decide (q ∈ acc) := by
    unfold enc
    rw [List.any_map, Bool.eq_iff_iff, List.any_eq_true, decide_eq_true_eq]
    constructor
    · rintro ⟨z, h1, h2⟩
      have h2' := of_decide_eq_true h2
      rw [(hk z).mp h2'] at h1
      exact h1
    · intro h
      exact ⟨q, h, decide_eq_true ((hk q).mpr rfl)⟩
  rw [ha]
  by_cases h : q ∈ acc
  · rw [if_pos (decide_eq_true h), if_pos h]
    unfold enc
    rw [List.map_map]
    apply List.map_congr_left
    intro z hz
    show (if keyOf (ptD z) = _ then (ptD z, PyData.bool true) else (ptD z, .bool true)) = _
    split <;> rfl
  · have : ¬ decide (q ∈ acc) = true := by simp [h]
    rw [if_neg this, if_neg h]
    unfold enc
    rw [List.map_append]
    rfl
end TW


set_option linter.all false
set_option maxRecDepth 100000
set_option maxHeartbeats 1000000
namespace TW
open PySem L2
theorem dict_loop {base : Ev} {vF6 : Sm PyData} (hb6 : ∀ q : Int × Int, ∃ e, gN 6 (ptD q) base = some e ∧ vF6 e = .ok (ptD q, e) ∧ wipeE e [6] = base) : ∀ (l acc : List (Int × Int)), acc.length + l.length ≤ 1000000 →
    loopG [6] (gN 6) (sret true) (tlDict vF6 (sret (.bool true))) (l.map ptD) (enc acc) base = some (enc (ddF acc l), base)
  | [], acc, _ => rfl
  | q :: l, acc, hl => by
    rw [List.length_cons] at hl
    obtain ⟨e, h1, h2, h3⟩ := hb6 q
    rw [List.map_cons, loop_cons h1]
    rw [show (sret true e : Res (Bool × Ev)) = .ok (true, e) from rfl]
    simp only []
    have T : tlDict vF6 (sret (.bool true)) (enc acc) e = some (enc (if q ∈ acc then acc else acc ++ [q]), e) := by
      unfold tlDict
      rw [h2]
      show (if (enc acc).length < 16777216 ∧ (NestedKey.tup [.num q.1, .num q.2]).depth ≤ 8 then some (putD (enc acc) (.tup [.num q.1, .num q.2]) (ptD q) (.bool true), e) else none) = _
      have d : (NestedKey.tup [.num q.1, .num q.2]).depth ≤ 8 := by simp [NestedKey.depth, NestedKey.depthAll]
      have l1 : (enc acc).length < 16777216 := by unfold enc; rw [List.length_map]; omega
      rw [if_pos ⟨l1, d⟩, put_enc]
    rw [T]
    simp only []
    rw [h3, ddF]
    by_cases h : q ∈ acc
    · rw [if_pos h, if_pos h]
      exact dict_loop hb6 l acc (by omega)
    · rw [if_neg h, if_neg h]
      exact dict_loop hb6 l _ (by rw [List.length_append, List.length_singleton]; omega)
theorem ho_len {v0 v1 v3 v4 v5 : Option M} {l : List (Int × Int)} (hl : l.length ≤ 1000000) :
    (sLenD [6] (gN 6) (sret true) (tlDict (vF 6) (sret (.bool true))) (bd (bd (vE 2) fun m => sopt (frz m)) sItems)) [v0, v1, some (.ml ((l.map ptD).map .fz)), v3, v4, v5, none, none, none] = .ok (.int (ddF [] l).length, [v0, v1, some (.fz (.list (l.map ptD))), v3, v4, v5, none, none, none]) := by
  unfold sLenD
  have hfi : (bd (bd (vE 2) fun m => sopt (frz m)) sItems) [v0, v1, some (.ml ((l.map ptD).map .fz)), v3, v4, v5, none, none, none] = .ok (l.map ptD, [v0, v1, some (.fz (.list (l.map ptD))), v3, v4, v5, none, none, none]) := by simp [-List.map_map, frzs_map]
  rw [e_bd, hfi]
  show sDgT [6] (gN 6) (sret true) (tlDict (vF 6) (sret (.bool true))) (l.map ptD) [v0, v1, some (.fz (.list (l.map ptD))), v3, v4, v5, none, none, none] = _
  unfold sDgT
  have hn : ([6].all fun v => notMl ([v0, v1, some (.fz (.list (l.map ptD))), v3, v4, v5, none, none, none] : Ev)[v]?) = true := rfl
  rw [if_pos hn]
  have D := dict_loop (base := [v0, v1, some (.fz (.list (l.map ptD))), v3, v4, v5, none, none, none]) (vF6 := vF 6) (fun q => ⟨[v0, v1, some (.fz (.list (l.map ptD))), v3, v4, v5, some (.fz (ptD q)), none, none], rfl, rfl, rfl⟩) l [] (by simpa using hl)
  have e0 : enc [] = [] := rfl
  rw [e0] at D
  have w : wipeE [v0, v1, some (.fz (.list (l.map ptD))), v3, v4, v5, none, none, none] [6] = [v0, v1, some (.fz (.list (l.map ptD))), v3, v4, v5, none, none, none] := rfl
  rw [w, D]
  have len : (enc (ddF [] l)).length = (ddF [] l).length := by unfold enc; rw [List.length_map]
  have := (dd_len l []).1
  show (if (enc (ddF [] l)).length ≤ 16777216 then Res.ok (PyData.int (enc (ddF [] l)).length, _) else .no) = _
  rw [len, if_pos (by simp at this; omega)]
  rfl
@[simp] theorem flat_fz (d : PyData) : flat (.fz d) = some d := rfl
theorem count_lt (p : List Bool) (x : Bool) : ((ltD p).countP fun z => PyData.eqv z (lt x)) = p.count x := by
  unfold ltD
  rw [List.countP_map, List.count_eq_countP]
  apply List.countP_congr
  intro y _
  show PyData.eqv (lt y) (lt x) = true ↔ (y == x) = true
  cases x <;> cases y <;> simp [lt, PyData.eqv] <;> decide
theorem counts (p : List Bool) (x : Bool) : sCount (.tuple (ltD p)) (lt x) = sret (.int (p.count x : Nat)) := by
  show (if min (PyData.depthAll (ltD p)) (lt x).depth ≤ 60 then sret (PyData.int (((ltD p).countP fun y => PyData.eqv y (lt x) : Nat) : Int)) else sfail) = _
  have d : (lt x).depth = 0 := by cases x <;> simp [lt, PyData.depth]
  rw [if_pos (by rw [d]; omega), count_lt]
@[simp] theorem isi_path (p : List Bool) : isi "tuple" (pathD p) = true := isi_tup _
@[simp] theorem len_path (p : List Bool) : sLen (pathD p) = sret (.int p.length) := by
  show sLen (.tuple (ltD p)) = _
  rw [e_lenT, ltD_len]
@[simp] theorem tup_path (p : List Bool) : sTup (pathD p) = sret (ltD p) := rfl
theorem nTF (p : List Bool) : p.length = nT p + nF p := by
  induction p with
  | nil => rfl
  | cons x p ih => cases x <;> simp [nT, nF] at ih ⊢ <;> omega
theorem heap_of_ok {a b c : Nat} {ps : List (List Bool)} (B : Bx a b c) (hl : ps.length = a) (hp : ∀ p ∈ ps, nT p = b ∧ nF p = c) :
    F_heap_of [.fz (bxD a b c), .fz (.tuple (ps.map pathD))] = .ok (.fz (if meetF [] 0 ps = true then .none else hpL (ps.map rowOf)), [some (.fz (bxD a b c)), some (.fz (.tuple (ps.map pathD)))]) := by
  have B' := B
  obtain ⟨ha, hb, hc⟩ := B'
  have hp100 : ∀ p ∈ ps, p.length ≤ 100 := fun p h => by have := hp p h; have := nTF p; omega
  have C1 : s_heap_of_c1 [some (.fz (bxD a b c)), some (.fz (.tuple (ps.map pathD))), none, some (.fz (.int a)), some (.fz (.int b)), some (.fz (.int c)), none, none, none] = .ok (.ml ((ps.map fun _ => PyData.bool true).map .fz), [some (.fz (bxD a b c)), some (.fz (.tuple (ps.map pathD))), none, some (.fz (.int a)), some (.fz (.int b)), some (.fz (.int c)), none, none, none]) := by
    refine lg_ls (F := pathD) (items := ps) (ev1 := [some (.fz (bxD a b c)), some (.fz (.tuple (ps.map pathD))), none, some (.fz (.int a)), some (.fz (.int b)), some (.fz (.int c)), none, none, none]) _ (by simp) rfl (by omega) (fun p hp => ⟨_, rfl, ?_, rfl⟩) rfl
    unfold s_heap_of_e0
    simp
  have C3 : s_heap_of_c3 [some (.fz (bxD a b c)), some (.fz (.tuple (ps.map pathD))), none, some (.fz (.int a)), some (.fz (.int b)), some (.fz (.int c)), none, none, none] = .ok (.ml ((ps.map fun _ => PyData.bool true).map .fz), [some (.fz (bxD a b c)), some (.fz (.tuple (ps.map pathD))), none, some (.fz (.int a)), some (.fz (.int b)), some (.fz (.int c)), none, none, none]) := by
    refine lg_ls (F := pathD) (items := ps) (ev1 := [some (.fz (bxD a b c)), some (.fz (.tuple (ps.map pathD))), none, some (.fz (.int a)), some (.fz (.int b)), some (.fz (.int c)), none, none, none]) _ (by simp) rfl (by omega) (fun p hpm => ⟨_, rfl, ?_, rfl⟩) rfl
    obtain ⟨h1, h2⟩ := hp p hpm
    have h3 := nTF p
    have c1 : sCount (.tuple (ltD p)) (.str "on") = sret (.int b) := by rw [← h1]; exact counts p true
    have c2 : sCount (.tuple (ltD p)) (.str "up") = sret (.int c) := by rw [← h2]; exact counts p false
    have hlen : (p.length : Int) = b + c := by omega
    unfold s_heap_of_e2
    simp [c1, c2, eqInt, hlen]
  have C7 : ∀ x : Option M, s_heap_of_c7 [some (.fz (bxD a b c)), some (.fz (.tuple (ps.map pathD))), x, some (.fz (.int a)), some (.fz (.int b)), some (.fz (.int c)), none, none, none] = .ok (.ml ((ps.map fun p => rowL (rowOf p)).map .fz), [some (.fz (bxD a b c)), some (.fz (.tuple (ps.map pathD))), x, some (.fz (.int a)), some (.fz (.int b)), some (.fz (.int c)), none, none, none]) := by
    intro x
    refine lg_ls (F := pathD) (items := ps) (ev1 := [some (.fz (bxD a b c)), some (.fz (.tuple (ps.map pathD))), x, some (.fz (.int a)), some (.fz (.int b)), some (.fz (.int c)), none, none, none]) _ (by simp) rfl (by omega) (fun p hpm => ⟨_, rfl, ?_, rfl⟩) rfl
    unfold s_heap_of_e6
    simp [slotsOf, resA, putA, row_of_ok p (by have := hp100 p hpm; omega)]
  have T := sAll_map (fun _ : List Bool => true) ps
  have q : ps.all (fun _ => true) = true := by simp
  rw [q] at T
  have PT := ho_points (v0 := some (.fz (bxD a b c))) (v2 := none) (v3 := some (.fz (.int a))) (v4 := some (.fz (.int b))) (v5 := some (.fz (.int c))) hp100 (by omega)
  have AL := allPts_len 100 ps 0 hp100
  have AL2 : ps.length * (100 + 1) ≤ 6 * 101 := Nat.mul_le_mul_right _ (by omega)
  have LN := ho_len (v0 := some (.fz (bxD a b c))) (v1 := some (.fz (.tuple (ps.map pathD)))) (v3 := some (.fz (.int a))) (v4 := some (.fz (.int b))) (v5 := some (.fz (.int c))) (l := allPts 0 ps) (by omega)
  have key : s_heap_of [some (.fz (bxD a b c)), some (.fz (.tuple (ps.map pathD))), none, none, none, none, none, none, none] = .ok (.rt (.fz (if meetF [] 0 ps = true then .none else hpL (ps.map rowOf))), [some (.fz (bxD a b c)), some (.fz (.tuple (ps.map pathD))), some (.fz (.list ((allPts 0 ps).map ptD))), some (.fz (.int a)), some (.fz (.int b)), some (.fz (.int c)), none, none, none]) := by
    unfold s_heap_of
    refine seq_ok (e := [some (.fz (bxD a b c)), some (.fz (.tuple (ps.map pathD))), none, none, none, none, none, none, none]) (by simp [slotsOf, resA, putA, check_box_ok B]) ?_
    refine seq_ok (e := [some (.fz (bxD a b c)), some (.fz (.tuple (ps.map pathD))), none, some (.fz (.int a)), some (.fz (.int b)), some (.fz (.int c)), none, none, none]) (by simp [bxD]) ?_
    refine seq_ok (e := [some (.fz (bxD a b c)), some (.fz (.tuple (ps.map pathD))), none, some (.fz (.int a)), some (.fz (.int b)), some (.fz (.int c)), none, none, none]) (by simp [-List.map_map, C1, T, neInt, hl]) ?_
    refine seq_ok (e := [some (.fz (bxD a b c)), some (.fz (.tuple (ps.map pathD))), none, some (.fz (.int a)), some (.fz (.int b)), some (.fz (.int c)), none, none, none]) (by simp [-List.map_map, C3, T]) ?_
    refine seq_ok (e := [some (.fz (bxD a b c)), some (.fz (.tuple (ps.map pathD))), some (.ml (((allPts 0 ps).map ptD).map .fz)), some (.fz (.int a)), some (.fz (.int b)), some (.fz (.int c)), none, none, none]) (by simp [-List.map_map, PT]) ?_
    have dl := dd_len (allPts 0 ps) []
    have mn := meet_nodup ps
    have e2 : (ps.map fun p => rowL (rowOf p)) = (ps.map rowOf).map rowL := by rw [List.map_map]; rfl
    by_cases h : (allPts 0 ps).Nodup
    · have hm : meetF [] 0 ps = false := by rw [mn]; simp [h]
      have hlt : ¬ ((ddF [] (allPts 0 ps)).length < (allPts 0 ps).length) := by
        have := dl.2.mpr ⟨h, by simp⟩
        rw [this]
        simp
      simp [-List.map_map, LN, C7, hm, hlt, e2]
      rfl
    · have hm : meetF [] 0 ps = true := by rw [mn]; simp [h]
      have hlt : (ddF [] (allPts 0 ps)).length < (allPts 0 ps).length := by
        have h1 := dl.1
        have h2 : ¬ (ddF [] (allPts 0 ps)).length = ([] : List (Int × Int)).length + (allPts 0 ps).length := fun e => h (dl.2.mp e).1
        simp at h1 h2
        omega
      simp [-List.map_map, LN, hm, hlt]
  have k2 := run_rt (N := 9) (n := 2) (pin := [0, 1]) (body := s_heap_of) (ms := [.fz (bxD a b c), .fz (.tuple (ps.map pathD))]) key
  rw [outs2] at k2
  exact k2
end TW


set_option linter.all false
set_option maxRecDepth 100000
set_option maxHeartbeats 1000000
namespace TW
open PySem L2
/-! ### polynomials -/
def upd (f : Nat → Int) (n : Nat) (v : Int) : Nat → Int := fun j => if j = n then v else f j
def iM (n : Nat) (f : Nat → Int) : List M := (iT n f).map .fz
theorem tb_set {α : Type} (n k : Nat) (f : Nat → α) (v : α) : (tb n f).set k v = tb n fun j => if j = k then v else f j := by
  apply List.ext_getElem
  · simp
  · intro i h1 h2
    rw [List.getElem_set]
    by_cases h : k = i
    · subst h
      simp [tb]
    · rw [if_neg h]
      simp [tb, show i ≠ k by omega]
theorem iM_len (n : Nat) (f : Nat → Int) : (iM n f).length = n := by simp [iM]
theorem iM_set (n k : Nat) (f : Nat → Int) (v : Int) : (iM n f).set k (.fz (.int v)) = iM n (upd f k v) := by
  unfold iM iT
  rw [tb_map, tb_map, tb_set]
  refine tb_congr fun j hj => ?_
  unfold upd
  by_cases h : j = k
  · rw [if_pos h, if_pos h]
  · rw [if_neg h, if_neg h]
theorem iM_at {n : Nat} {f : Nat → Int} {i : Nat} (h : i < n) : atI (iM n f) (i : Int) = some (.fz (.int (f i))) := by
  unfold iM iT
  rw [tb_map]
  exact atI_nat h
theorem kSet_nat {n : Nat} {f : Nat → Int} {k : Nat} {v : Int} (h : k < n) : kSet (k : Int) (.fz (.int v)) (iM n f) = some (iM n (upd f k v)) := by
  unfold kSet
  have : ixN (iM n f).length (k : Int) = some k := by
    unfold ixN
    rw [iM_len, if_pos (by omega), if_pos (by omega)]
    rfl
  rw [this, ← iM_set]
  rfl
theorem iM_flat (n : Nat) (f : Nat → Int) : flat (.ml (iM n f)) = some (.list (iT n f)) := flat_ml _
theorem iM_frz (n : Nat) (f : Nat → Int) : frz (.ml (iM n f)) = some (.list (iT n f)) := frz_ml _
theorem e_augIx {i : Nat} {op : Operator} {fk fe : Sm PyData} {ev e : Ev} {ms : List M} {k : Int} {j y z : Int} {ms' : List M} (h1 : ev[i]? = some (some (.ml ms))) (h2 : fk ev = .ok (.int k, ev)) (h3 : atI ms k = some (.fz (.int j))) (h4 : fe ev = .ok (.int y, ev)) (h5 : augI op j y = some z) (h6 : kSet k (.fz (.int z)) ms = some ms') (he : e = ev.set i (some (.ml ms'))) :
    sAugIx i op fk fe ev = .ok (.nx, e) := by
  subst he
  unfold sAugIx
  rw [e_bd, e_ml, h1]
  simp only []
  rw [e_bd, h2]
  simp only [augK]
  rw [e_bd]
  have : getI i k ev = .ok (j, ev) := by
    unfold getI
    rw [h1]
    simp only []
    rw [h3]
  rw [this]
  simp only []
  rw [e_bd, h4]
  simp only [augE]
  rw [h5]
  simp only []
  unfold sMut
  rw [h1]
  simp only []
  rw [h6]
  rfl
def dnF (p : Nat) (f : Nat → Int) : Nat → Int := fun j => if p + 1 ≤ j then f j - f (j - p - 1) else f j
def dnK (p m : Nat) (f : Nat → Int) : Nat → Int := fun j => if m ≤ j ∧ p + 1 ≤ j then f j - f (j - p - 1) else f j
theorem iM_congr {n : Nat} {f g : Nat → Int} (h : ∀ j, j < n → f j = g j) : iM n f = iM n g := by
  unfold iM iT
  rw [tb_congr fun j hj => by rw [h j hj]]
theorem sz_dn {v0 v1 v4 : Option M} {N p n : Nat} {f : Nat → Int} (hn : n < N) (hp : p < n) :
    s_sizes_f0 [v0, v1, some (.ml (iM N (dnK p (n + 1) f))), some (.fz (.int p)), some (.fz (.int n))] = .ok (.nx, [v0, v1, some (.ml (iM N (dnK p n f))), some (.fz (.int p)), some (.fz (.int n))]) := by
  unfold s_sizes_f0
  have a1 := iM_at (n := N) (f := dnK p (n + 1) f) (i := n) hn
  have a2 : atI (iT N (dnK p (n + 1) f)) ((n : Int) - p - 1) = some (.int (f (n - p - 1))) := by
    rw [show (n : Int) - p - 1 = ((n - p - 1 : Nat) : Int) by omega, iT_at (by omega)]
    unfold dnK
    rw [if_neg (by omega)]
  refine e_augIx (ms := iM N (dnK p (n + 1) f)) (k := n) (j := f n) (y := f (n - p - 1)) (z := f n - f (n - p - 1)) (ms' := iM N (dnK p n f)) rfl (by simp) (by
    rw [a1]
    unfold dnK
    rw [if_neg (by omega)]) (by simp [iM_flat, a2]) rfl (by
    rw [kSet_nat hn]
    congr 1
    refine iM_congr fun j hj => ?_
    unfold upd dnK
    by_cases h : j = n
    · subst h
      rw [if_pos rfl, if_pos (by omega)]
    · rw [if_neg h]
      by_cases h2 : n + 1 ≤ j ∧ p + 1 ≤ j
      · rw [if_pos h2, if_pos (by omega)]
      · rw [if_neg h2, if_neg (by omega)]) rfl
theorem rgC_dn (N p : Nat) (h : p < N) : rgC ((N - 1 : Nat) : Int) (-1) (N - 1 - p) = tb (N - 1 - p) fun i => .int ((N - 1 - i : Nat) : Int) := by
  unfold rgC
  show tb _ _ = _
  refine tb_congr fun i hi => ?_
  congr 1
  omega
theorem sz_down {v0 v1 v4 : Option M} {N p : Nat} {f : Nat → Int} (hp : p < N) : ∃ w4, forLoop (gN 4) s_sizes_f0 (rgC ((N - 1 : Nat) : Int) (-1) (N - 1 - p)) [v0, v1, some (.ml (iM N f)), some (.fz (.int p)), v4] = .ok (.nx, [v0, v1, some (.ml (iM N (dnF p f))), some (.fz (.int p)), w4]) := by
  rw [rgC_dn N p hp]
  have L := forTb (g := gN 4) (n := N - 1 - p) (F := fun i => .int ((N - 1 - i : Nat) : Int)) (fb := s_sizes_f0) (fun i ev => ∃ x4, ev = [v0, v1, some (.ml (iM N (dnK p (N - i) f))), some (.fz (.int p)), x4])
    (ev := [v0, v1, some (.ml (iM N f)), some (.fz (.int p)), v4]) ⟨v4, by
      congr 5
      refine iM_congr fun j hj => ?_
      unfold dnK
      rw [if_neg (by omega)]⟩ fun i ev hi ⟨x4, e⟩ => by
      subst e
      have S := sz_dn (v0 := v0) (v1 := v1) (v4 := x4) (N := N) (p := p) (n := N - 1 - i) (f := f) (by omega) (by omega)
      rw [show N - 1 - i + 1 = N - i by omega] at S
      refine ⟨_, _, rfl, S, some (.fz (.int ((N - 1 - i : Nat) : Int))), ?_⟩
      rw [show N - (i + 1) = N - 1 - i by omega]
  obtain ⟨ev', e1, x4, e2⟩ := L
  subst e2
  refine ⟨x4, ?_⟩
  rw [e1]
  have : iM N (dnK p (N - (N - 1 - p)) f) = iM N (dnF p f) := by
    refine iM_congr fun j hj => ?_
    unfold dnK dnF
    by_cases h : p + 1 ≤ j
    · rw [if_pos (by omega), if_pos h]
    · rw [if_neg (by omega), if_neg h]
  rw [this]
def upF (p : Nat) (f : Nat → Int) (j : Nat) : Int := f j + if h : 0 < p ∧ p ≤ j then upF p f (j - p) else 0
termination_by j
decreasing_by omega
def upK (p m : Nat) (f : Nat → Int) : Nat → Int := fun j => if j < m then upF p f j else f j
theorem sz_up {v0 v1 : Option M} {N p n : Nat} {f : Nat → Int} (hn : n < N) (hp : 0 < p) (hpn : p ≤ n) :
    s_sizes_f1 [v0, v1, some (.ml (iM N (upK p n f))), some (.fz (.int p)), some (.fz (.int n))] = .ok (.nx, [v0, v1, some (.ml (iM N (upK p (n + 1) f))), some (.fz (.int p)), some (.fz (.int n))]) := by
  unfold s_sizes_f1
  have a1 := iM_at (n := N) (f := upK p n f) (i := n) hn
  have a2 : atI (iT N (upK p n f)) ((n : Int) - p) = some (.int (upF p f (n - p))) := by
    rw [show (n : Int) - p = ((n - p : Nat) : Int) by omega, iT_at (by omega)]
    unfold upK
    rw [if_pos (by omega)]
  have u : upF p f n = f n + upF p f (n - p) := by
    rw [upF, dif_pos ⟨hp, hpn⟩]
  refine e_augIx (ms := iM N (upK p n f)) (k := n) (j := f n) (y := upF p f (n - p)) (z := f n + upF p f (n - p)) (ms' := iM N (upK p (n + 1) f)) rfl (by simp) (by
    rw [a1]
    unfold upK
    rw [if_neg (by omega)]) (by simp [iM_flat, a2]) rfl (by
    rw [kSet_nat hn]
    congr 1
    refine iM_congr fun j hj => ?_
    unfold upd upK
    by_cases h : j = n
    · subst h
      rw [if_pos rfl, if_pos (by omega), u]
    · rw [if_neg h]
      by_cases h2 : j < n
      · rw [if_pos h2, if_pos (by omega)]
      · rw [if_neg h2, if_neg (by omega)]) rfl
theorem sz_upward {v0 v1 v4 : Option M} {N p : Nat} {f : Nat → Int} (hp : 0 < p) : ∃ w4, forLoop (gN 4) s_sizes_f1 (rgI (p : Int) (N - p)) [v0, v1, some (.ml (iM N f)), some (.fz (.int p)), v4] = .ok (.nx, [v0, v1, some (.ml (iM N (upF p f))), some (.fz (.int p)), w4]) := by
  have L := forRange (g := gN 4) (lo := p) (n := N - p) (fb := s_sizes_f1) (fun i ev => ∃ x4, ev = [v0, v1, some (.ml (iM N (upK p (p + i) f))), some (.fz (.int p)), x4])
    (ev := [v0, v1, some (.ml (iM N f)), some (.fz (.int p)), v4]) ⟨v4, by
      congr 5
      refine iM_congr fun j hj => ?_
      unfold upK
      split
      · rw [upF, dif_neg (by omega), Int.add_zero]
      · rfl⟩ fun i ev hi ⟨x4, e⟩ => by
      subst e
      have S := sz_up (v0 := v0) (v1 := v1) (N := N) (p := p) (n := p + i) (f := f) (by omega) hp (by omega)
      refine ⟨_, _, rfl, ?_, some (.fz (.int ((p + i : Nat) : Int))), rfl⟩
      rw [show (p : Int) + (i : Int) = ((p + i : Nat) : Int) by omega]
      exact S
  obtain ⟨ev', e1, x4, e2⟩ := L
  subst e2
  refine ⟨x4, ?_⟩
  rw [e1]
  have : iM N (upK p (p + (N - p)) f) = iM N (upF p f) := by
    refine iM_congr fun j hj => ?_
    unfold upK
    rw [if_pos (by omega)]
  rw [this]
end TW


set_option linter.all false
set_option maxRecDepth 100000
set_option maxHeartbeats 1000000
namespace TW
open PySem L2
theorem e_rgDn {i j : Int} (h : (-16777216 ≤ i ∧ i ≤ 16777216) ∧ -16777216 ≤ j ∧ j ≤ 16777216 ∧ i - j ≤ 16777216) : sRgDn (.int i) (.int j) = sret (rgC i (-1) (i - j).toNat) := if_pos h
theorem e_rg2' {i j : Int} (h : (-16777216 ≤ i ∧ i ≤ 16777216) ∧ -16777216 ≤ j ∧ j ≤ 16777216 ∧ j - i ≤ 16777216) : sRg2 (.int i) (.int j) = sret (rgI i (j - i).toNat) := if_pos h
theorem sz_down' {v0 v1 v4 : Option M} {N p : Nat} {f : Nat → Int} (hN : 1 ≤ N) : ∃ w4, forLoop (gN 4) s_sizes_f0 (rgC ((N - 1 : Nat) : Int) (-1) (N - 1 - p)) [v0, v1, some (.ml (iM N f)), some (.fz (.int p)), v4] = .ok (.nx, [v0, v1, some (.ml (iM N (dnF p f))), some (.fz (.int p)), w4]) := by
  by_cases hp : p < N
  · exact sz_down (v4 := v4) hp
  · refine ⟨v4, ?_⟩
    rw [show N - 1 - p = 0 by omega]
    have : iM N (dnF p f) = iM N f := iM_congr fun j hj => by
      unfold dnF
      rw [if_neg (by omega)]
    rw [this]
    rfl
theorem sz_place {v0 v4 : Option M} {N p : Nat} {f : Nat → Int} (hN : 1 ≤ N ∧ N ≤ 10000) (hp : 0 < p ∧ p ≤ 10000) : ∃ w4, s_sizes_f2 [v0, some (.fz (.int N)), some (.ml (iM N f)), some (.fz (.int p)), v4] = .ok (.nx, [v0, some (.fz (.int N)), some (.ml (iM N (upF p (dnF p f)))), some (.fz (.int p)), w4]) := by
  obtain ⟨w4, e1⟩ := sz_down' (v0 := v0) (v1 := some (.fz (.int N))) (v4 := v4) (N := N) (p := p) (f := f) hN.1
  obtain ⟨u4, e2⟩ := sz_upward (v0 := v0) (v1 := some (.fz (.int N))) (v4 := w4) (N := N) (p := p) (f := dnF p f) hp.1
  refine ⟨u4, ?_⟩
  unfold s_sizes_f2
  refine seq_ok (for_ok (items := rgC ((N - 1 : Nat) : Int) (-1) (N - 1 - p)) (e := [v0, some (.fz (.int N)), some (.ml (iM N f)), some (.fz (.int p)), v4]) ?_ e1) ?_
  · have h : sRgDn (.int ((N : Int) - 1)) (.int p) = sret (rgC ((N - 1 : Nat) : Int) (-1) (N - 1 - p)) := by
      rw [e_rgDn (by omega)]
      congr 2
      · omega
      · omega
    simp [h]
  · refine for_ok (items := rgI (p : Int) (N - p)) (e := [v0, some (.fz (.int N)), some (.ml (iM N (dnF p f))), some (.fz (.int p)), w4]) ?_ e2
    have h : sRg2 (.int (p : Int)) (.int N) = sret (rgI (p : Int) (N - p)) := by
      rw [e_rg2' (by omega)]
      congr 2
      omega
    simp [h]
def szF (ps : List Nat) (f : Nat → Int) : Nat → Int := ps.foldl (fun f p => upF p (dnF p f)) f
def nI (l : List Nat) : List PyData := l.map fun n => .int (n : Nat)
theorem sz_loop {v0 : Option M} {N : Nat} (hN : 1 ≤ N ∧ N ≤ 10000) : ∀ (ps : List Nat) (f : Nat → Int) (v3 v4 : Option M), (∀ p ∈ ps, 0 < p ∧ p ≤ 10000) →
    ∃ w3 w4, forLoop (gN 3) s_sizes_f2 (nI ps) [v0, some (.fz (.int N)), some (.ml (iM N f)), v3, v4] = .ok (.nx, [v0, some (.fz (.int N)), some (.ml (iM N (szF ps f))), w3, w4])
  | [], f, v3, v4, _ => ⟨v3, v4, rfl⟩
  | p :: ps, f, v3, v4, h => by
    obtain ⟨w4, e⟩ := sz_place (v0 := v0) (v4 := v4) (f := f) hN (h p (List.mem_cons_self ..))
    obtain ⟨u3, u4, e2⟩ := sz_loop (v0 := v0) hN ps (upF p (dnF p f)) (some (.fz (.int p))) w4 fun q hq => h q (List.mem_cons_of_mem _ hq)
    refine ⟨u3, u4, ?_⟩
    show forLoop (gN 3) s_sizes_f2 (.int p :: nI ps) _ = _
    rw [forLoop]
    show (match s_sizes_f2 [v0, some (.fz (.int N)), some (.ml (iM N f)), some (.fz (.int p)), v4] with | .ok (.nx, ev2) => forLoop (gN 3) s_sizes_f2 (nI ps) ev2 | .ok (.ct, ev2) => forLoop (gN 3) s_sizes_f2 (nI ps) ev2 | .ok (.bk, ev2) => .ok (.nx, ev2) | .ok (.rt m, ev2) => .ok (.rt m, ev2) | .exc c => .exc c | .no => .no) = _
    rw [e]
    exact e2
/-- the places as Nat -/
def plN (a b c : Nat) : List Nat := (List.range a).flatMap fun i => (List.range b).flatMap fun j => (List.range c).map fun k => i + j + k + 1
theorem plI_N (a b c : Nat) : plI a b c = (plN a b c).map fun (n : Nat) => (n : Int) := by
  unfold plI plJ plK plN
  rw [List.map_flatMap]
  congr 1
  funext i
  rw [List.map_flatMap]
  congr 1
  funext j
  rw [List.map_map]
  apply List.map_congr_left
  intro k _
  show (i : Int) + j + k + 1 = ((i + j + k + 1 : Nat) : Int)
  omega
theorem plN_bd {a b c p : Nat} (B : Bx a b c) (h : p ∈ plN a b c) : 0 < p ∧ p ≤ 10000 := by
  obtain ⟨i, hi, h⟩ := List.mem_flatMap.mp h
  obtain ⟨j, hj, h⟩ := List.mem_flatMap.mp h
  obtain ⟨k, hk, rfl⟩ := List.mem_map.mp h
  rw [List.mem_range] at hi hj hk
  have := B.ha
  have := B.hb
  have := B.hc
  omega
theorem vol_bd {a b c : Nat} (B : Bx a b c) : 1 ≤ a * b * c ∧ a * b * c ≤ 216 := by
  obtain ⟨ha, hb, hc⟩ := B
  have h1 : a * b ≤ 6 * 6 := Nat.mul_le_mul ha.2 hb.2
  have h2 : a * b * c ≤ 36 * 6 := Nat.mul_le_mul h1 hc.2
  have h3 : 1 * 1 ≤ a * b := Nat.mul_le_mul ha.1 hb.1
  have h4 : 1 * 1 ≤ a * b * c := Nat.mul_le_mul h3 hc.1
  omega
def one0 : Nat → Int := fun j => if j = 0 then 1 else 0
theorem iT_one (n : Nat) : iT (n + 1) one0 = .int 1 :: List.replicate n (.int 0) := by
  unfold iT tb
  rw [List.range_succ_eq_map, List.map_cons, List.map_map]
  congr 1
  rw [List.eq_replicate_iff]
  refine ⟨by simp, fun x hx => ?_⟩
  obtain ⟨k, _, rfl⟩ := List.mem_map.mp hx
  rfl
theorem bd_ok {α β : Type} {f : Sm α} {g : α → Sm β} {ev e : Ev} {a : α} {r : Res (β × Ev)} (h1 : f ev = .ok (a, e)) (h2 : g a e = r) : bd f g ev = r := by
  rw [e_bd, h1]
  exact h2
theorem set_ok {i : Nat} {f : Sm M} {ev e e' : Ev} {m : M} (h1 : f ev = .ok (m, e)) (h2 : i < e.length) (h3 : e.set i (some m) = e') : sSet i f ev = .ok (.nx, e') := by
  rw [e_set, h1]
  simp only []
  rw [if_pos h2, h3]
theorem mulN {x : PyData} {n : Nat} (h : n < 1000000) : sMul (.list [x]) (.int n) = sret (.ml ((List.replicate n x).map .fz)) := by
  unfold sMul
  simp only []
  rw [if_pos ⟨by omega, by rw [List.length_singleton]; omega, by omega⟩]
  have : (List.replicate (n : Int).toNat [x]).flatten = List.replicate n x := by
    rw [show (n : Int).toNat = n by omega]
    clear h
    induction n with
    | zero => rfl
    | succ n ih => rw [List.replicate_succ, List.flatten_cons, ih]; rfl
  rw [this]
theorem sizes_ok {a b c : Nat} (B : Bx a b c) : F_sizes [.fz (bxD a b c)] = .ok (.fz (.tuple (iT (a * b * c + 1) (szF (plN a b c) one0))), [some (.fz (bxD a b c))]) := by
  obtain ⟨hv1, hv2⟩ := vol_bd B
  obtain ⟨w3, w4, e⟩ := sz_loop (v0 := some (.fz (bxD a b c))) (N := a * b * c + 1) (by omega) (plN a b c) one0 none none fun p hp => plN_bd B hp
  have m1 : mulOk a b := mulR (by have := B.hb; omega) (by have := B.hb; omega)
  have m2 : mulOk ((a : Int) * b) c := mulR (by have := B.hc; omega) (by have := B.hc; omega)
  have key : s_sizes [some (.fz (bxD a b c)), none, none, none, none] = .ok (.rt (.fz (.tuple (iT (a * b * c + 1) (szF (plN a b c) one0)))), [some (.fz (bxD a b c)), some (.fz (.int (a * b * c + 1 : Nat))), some (.ml (iM (a * b * c + 1) (szF (plN a b c) one0))), w3, w4]) := by
    unfold s_sizes
    refine seq_ok (e := [some (.fz (bxD a b c)), none, none, none, none]) (by simp [slotsOf, resA, putA, check_box_ok B]) ?_
    refine seq_ok (e := [some (.fz (bxD a b c)), some (.fz (.int (a * b * c + 1 : Nat))), none, none, none]) ?_ ?_
    · have M1 : sMul (.int a) (.int b) = sret (.fz (.int (a * b : Nat))) := by
        rw [e_mul, if_pos m1, Int.natCast_mul]
      have M2 : sMul (.int (a * b : Nat)) (.int c) = sret (.fz (.int (a * b * c : Nat))) := by
        rw [e_mul, if_pos (by rw [Int.natCast_mul]; exact m2), ← Int.natCast_mul]
      have A1 : sAdd (.int (a * b * c : Nat)) (.int 1) = sret (.fz (.int (a * b * c + 1 : Nat))) := rfl
      have I0 : (bd (vF 0) fun d => bd (sret (.int 0)) fun e => TW.sIx d e) [some (.fz (bxD a b c)), none, none, none, none] = .ok (.int a, [some (.fz (bxD a b c)), none, none, none, none]) := by simp
      have I1 : (bd (vF 0) fun d => bd (sret (.int 1)) fun e => TW.sIx d e) [some (.fz (bxD a b c)), none, none, none, none] = .ok (.int b, [some (.fz (bxD a b c)), none, none, none, none]) := by simp
      have I2 : (bd (vF 0) fun d => bd (sret (.int 2)) fun e => TW.sIx d e) [some (.fz (bxD a b c)), none, none, none, none] = .ok (.int c, [some (.fz (bxD a b c)), none, none, none, none]) := by simp
      refine set_ok (m := .fz (.int (a * b * c + 1 : Nat))) (bd_ok (a := .int (a * b * c : Nat)) (bd_ok (a := .fz (.int (a * b * c : Nat))) (bd_ok (a := .int (a * b : Nat)) (bd_ok (a := .fz (.int (a * b : Nat))) (bd_ok I0 (bd_ok I1 (by rw [M1]; rfl))) rfl) (bd_ok I2 (by rw [M2]; rfl))) rfl) (bd_ok rfl (by rw [A1]; rfl))) (by simp) rfl
    refine seq_ok (e := [some (.fz (bxD a b c)), some (.fz (.int (a * b * c + 1 : Nat))), some (.ml (iM (a * b * c + 1) one0)), none, none]) ?_ ?_
    · have hm : sMul (.list [.int 0]) (.int (a * b * c : Nat)) = sret (.ml ((List.replicate (a * b * c) (PyData.int 0)).map .fz)) := mulN (by omega)
      have ha : sAdd (.list [.int 1]) (.list (List.replicate (a * b * c) (.int 0))) = sret (.ml (iM (a * b * c + 1) one0)) := by
        rw [e_addL, if_pos (by rw [List.length_singleton, List.length_replicate]; omega)]
        unfold iM
        rw [iT_one]
        rfl
      have f1 : frz (.ml [.fz (.int 1)]) = some (.list [.int 1]) := rfl
      have f0 : frz (.ml [.fz (.int 0)]) = some (.list [.int 0]) := rfl
      have hs : (((a * b * c + 1 : Nat) : Int) - 1) = (a * b * c : Nat) := by omega
      have V1 : sSub (.int (a * b * c + 1 : Nat)) (.int 1) = sret (.int (a * b * c : Nat)) := by
        show sret (PyData.int (((a * b * c + 1 : Nat) : Int) - 1)) = _
        rw [hs]
      simp only [e_set, e_bd, e_consE, e_nilE, e_ret, f1, f0, e_opt, e_vF, List.getElem?_cons_succ, List.getElem?_cons_zero, V1, hm, frz_ml, ha]
      simp
    · refine seq_ok (for_ok (items := nI (plN a b c)) (e := [some (.fz (bxD a b c)), some (.fz (.int (a * b * c + 1 : Nat))), some (.ml (iM (a * b * c + 1) one0)), none, none]) ?_ e) ?_
      · simp [slotsOf, resA, putA, places_ok B]
        rw [plI_N, List.map_map]
        rfl
      · simp [iM_flat]
  have k2 := run_rt (N := 5) (n := 1) (pin := [0]) (body := s_sizes) (ms := [.fz (bxD a b c)]) key
  rw [outs1] at k2
  exact k2
end TW


set_option linter.all false
set_option maxRecDepth 100000
set_option maxHeartbeats 1000000
namespace TW
open PySem L2
/-! _law_times -/
def tmK (L p n : Nat) (f : Nat → Int) : Nat → Int := fun j => (if j < L then f j else 0) - (if p ≤ j ∧ j - p < n then f (j - p) else 0)
def tmF (L p : Nat) (f : Nat → Int) : Nat → Int := tmK L p L f
theorem bd_s {α β : Type} {f : Sm α} {g : α → Sm β} {ev : Ev} {a : α} {r : Res (β × Ev)} (h1 : f ev = .ok (a, ev)) (h2 : g a ev = r) : bd f g ev = r := bd_ok h1 h2
theorem setIx_ok {i : Nat} {fe : Sm M} {fk : Sm PyData} {ev : Ev} {m : M} {k : Int} {ms ms' : List M} {e : Ev} (h1 : fe ev = .ok (m, ev)) (h2 : ev[i]? = some (some (.ml ms))) (h3 : fk ev = .ok (.int k, ev)) (h4 : kSet k m ms = some ms') (he : ev.set i (some (.ml ms')) = e) : sSetIx i fe fk ev = .ok (.nx, e) := by
  subst he
  rw [e_setIx, h1]
  simp only []
  rw [e_ml, h2]
  simp only []
  rw [h3]
  simp only []
  unfold sMut
  rw [h2]
  simp only []
  rw [h4]
  rfl
theorem tm_f0 {v0 v2 v3 v4 v5 : Option M} {L p n : Nat} {f : Nat → Int} (hn : n < L) :
    s__law_times_f0 [v0, some (.fz (.list (iT L f))), v2, v3, v4, v5, some (.fz (.int p)), some (.ml (iM (L + p) (tmK L p n f))), some (.fz (.int n))] = .ok (.nx, [v0, some (.fz (.list (iT L f))), v2, v3, v4, v5, some (.fz (.int p)), some (.ml (iM (L + p) (tmK L p (n + 1) f))), some (.fz (.int n))]) := by
  unfold s__law_times_f0
  have a1 : atI (iT (L + p) (tmK L p n f)) ((n : Int) + p) = some (.int (if n + p < L then f (n + p) else 0)) := by
    rw [show (n : Int) + p = ((n + p : Nat) : Int) by omega, iT_at (by omega)]
    congr 2
    unfold tmK
    rw [if_neg (show ¬ (p ≤ n + p ∧ n + p - p < n) by omega)]
    omega
  have a2 : atI (iT L f) (n : Int) = some (.int (f n)) := iT_at hn
  refine setIx_ok (m := .fz (.int ((if n + p < L then f (n + p) else 0) - f n))) (k := ((n + p : Nat) : Int)) (ms := iM (L + p) (tmK L p n f)) (ms' := iM (L + p) (tmK L p (n + 1) f)) ?_ rfl (by simp) ?_ rfl
  · simp [iM_flat, a1, a2]
  · rw [kSet_nat (by omega)]
    congr 1
    refine iM_congr fun j hj => ?_
    unfold upd tmK
    by_cases h : j = n + p
    · subst h
      rw [if_pos rfl, if_pos (show p ≤ n + p ∧ n + p - p < n + 1 by omega), Nat.add_sub_cancel]
    · rw [if_neg h]
      congr 1
      by_cases h2 : p ≤ j ∧ j - p < n
      · rw [if_pos h2, if_pos (by omega)]
      · rw [if_neg h2, if_neg (by omega)]
theorem tm_loop {v0 v2 v3 v4 v5 v8 : Option M} {L p : Nat} {f : Nat → Int} : ∃ w8, forLoop (gN 8) s__law_times_f0 (rgI 0 L) [v0, some (.fz (.list (iT L f))), v2, v3, v4, v5, some (.fz (.int p)), some (.ml (iM (L + p) (tmK L p 0 f))), v8] = .ok (.nx, [v0, some (.fz (.list (iT L f))), v2, v3, v4, v5, some (.fz (.int p)), some (.ml (iM (L + p) (tmF L p f))), w8]) := by
  have K := forRange (g := gN 8) (lo := 0) (n := L) (fb := s__law_times_f0) (fun n ev => ∃ x8, ev = [v0, some (.fz (.list (iT L f))), v2, v3, v4, v5, some (.fz (.int p)), some (.ml (iM (L + p) (tmK L p n f))), x8])
    (ev := [v0, some (.fz (.list (iT L f))), v2, v3, v4, v5, some (.fz (.int p)), some (.ml (iM (L + p) (tmK L p 0 f))), v8]) ⟨v8, rfl⟩ fun n ev hn ⟨x8, e⟩ => by
      subst e
      refine ⟨_, _, rfl, ?_, some (.fz (.int n)), rfl⟩
      rw [show (0 : Int) + n = n by omega]
      exact tm_f0 hn
  obtain ⟨ev', e1, x8, e2⟩ := K
  subst e2
  exact ⟨x8, e1⟩
theorem tm_body {v0 v6 v7 v8 : Option M} {L i j k more p : Nat} {f : Nat → Int} (hL : L ≤ 100000) (hp : i + j + k = p + more) (hp2 : p ≤ 1000) :
    ∃ w6 w7 w8, s__law_times_f1 [v0, some (.fz (.list (iT L f))), some (.fz (.int more)), some (.fz (.int i)), some (.fz (.int j)), some (.fz (.int k)), v6, v7, v8] = .ok (.nx, [v0, some (.fz (.list (iT (L + p) (tmF L p f)))), some (.fz (.int more)), some (.fz (.int i)), some (.fz (.int j)), some (.fz (.int k)), w6, w7, w8]) := by
  obtain ⟨w8, e⟩ := tm_loop (v0 := v0) (v2 := some (.fz (.int more))) (v3 := some (.fz (.int i))) (v4 := some (.fz (.int j))) (v5 := some (.fz (.int k))) (v8 := v8) (L := L) (p := p) (f := f)
  refine ⟨some (.fz (.int p)), some (.fz (.list (iT (L + p) (tmF L p f)))), w8, ?_⟩
  unfold s__law_times_f1
  refine seq_ok (e := [v0, some (.fz (.list (iT L f))), some (.fz (.int more)), some (.fz (.int i)), some (.fz (.int j)), some (.fz (.int k)), some (.fz (.int p)), v7, v8]) ?_ ?_
  · have : (i : Int) + j + k - more = p := by omega
    simp [this]
  refine seq_ok (e := [v0, some (.fz (.list (iT L f))), some (.fz (.int more)), some (.fz (.int i)), some (.fz (.int j)), some (.fz (.int k)), some (.fz (.int p)), some (.ml (iM (L + p) (tmK L p 0 f))), v8]) ?_ ?_
  · have hm : sMul (.list [.int 0]) (.int p) = sret (.ml ((List.replicate p (PyData.int 0)).map .fz)) := mulN (by omega)
    have hl : iT L f ++ List.replicate p (.int 0) = iT (L + p) (tmK L p 0 f) := by
      apply List.ext_getElem
      · simp
      · intro t h1 h2
        by_cases ht : t < L
        · rw [List.getElem_append_left (by simpa using ht)]
          simp [iT, tb, tmK, ht]
        · rw [List.getElem_append_right (by simpa using ht)]
          simp [iT, tb, tmK, ht]
    have ha : sAdd (.list (iT L f)) (.list (List.replicate p (.int 0))) = sret (.ml (iM (L + p) (tmK L p 0 f))) := by
      have hle : (iT L f).length + (List.replicate p (PyData.int 0)).length ≤ 16777216 := by rw [iT_len, List.length_replicate]; omega
      have := e_addL (iT L f) (List.replicate p (.int 0))
      rw [if_pos hle, hl] at this
      exact this
    refine set_ok (m := .ml (iM (L + p) (tmK L p 0 f))) (bd_s (a := .list (iT L f)) (bd_s (a := .ml (iM L f)) (by simp [iM]) (by rw [iM_frz]; rfl)) (bd_s (a := .list (List.replicate p (.int 0))) (bd_s (a := .ml ((List.replicate p (PyData.int 0)).map .fz)) (bd_s (a := .list [.int 0]) (by simp [frz, frzs]) (bd_s (a := .int p) (by simp) (by rw [hm]; rfl))) (by rw [frz_ml]; rfl)) (by rw [ha]; rfl))) (by simp) rfl
  refine seq_ok (for_ok (items := rgI 0 L) (e := [v0, some (.fz (.list (iT L f))), some (.fz (.int more)), some (.fz (.int i)), some (.fz (.int j)), some (.fz (.int k)), some (.fz (.int p)), some (.ml (iM (L + p) (tmK L p 0 f))), v8]) ?_ e) ?_
  · have : sRg1 (.int L) = sret (rgI 0 L) := by
      rw [e_rg1, if_pos (by omega)]
      rfl
    simp [this]
  · simp [iM, frzs_map]
end TW


set_option linter.all false
set_option maxRecDepth 100000
set_option maxHeartbeats 1000000
namespace TW
open PySem L2
abbrev Ply := Nat × (Nat → Int)
def stp (p : Nat) (s : Ply) : Ply := (s.1 + p, tmF s.1 p s.2)
def tkS (e : Nat) : Nat → Ply → Ply
  | 0, s => s
  | n + 1, s => stp (e + n) (tkS e n s)
def tjS (e c : Nat) : Nat → Ply → Ply
  | 0, s => s
  | n + 1, s => tkS (e + n) c (tjS e c n s)
def tiS (e b c : Nat) : Nat → Ply → Ply
  | 0, s => s
  | n + 1, s => tjS (e + n) c b (tiS e b c n s)
theorem tkS_bd {e : Nat} {s : Ply} : ∀ n, e + n ≤ 100 → (tkS e n s).1 ≤ s.1 + n * 100
  | 0, _ => by simp [tkS]
  | n + 1, h => by
    have := tkS_bd (e := e) (s := s) n (by omega)
    show (tkS e n s).1 + (e + n) ≤ _
    rw [Nat.add_mul]
    omega
theorem tjS_bd {e c : Nat} {s : Ply} (hc : c ≤ 6) : ∀ n, e + n + c ≤ 100 → (tjS e c n s).1 ≤ s.1 + n * 600
  | 0, _ => by simp [tjS]
  | n + 1, h => by
    have h1 := tjS_bd (e := e) (s := s) hc n (by omega)
    have h2 := tkS_bd (e := e + n) (s := tjS e c n s) c (by omega)
    show (tkS (e + n) c (tjS e c n s)).1 ≤ _
    rw [Nat.add_mul]
    omega
theorem tiS_bd {e b c : Nat} {s : Ply} (hc : c ≤ 6) (hb : b ≤ 6) : ∀ n, e + n + b + c ≤ 100 → (tiS e b c n s).1 ≤ s.1 + n * 3600
  | 0, _ => by simp [tiS]
  | n + 1, h => by
    have h1 := tiS_bd (e := e) (s := s) hc hb n (by omega)
    have h2 := tjS_bd (e := e + n) (s := tiS e b c n s) hc b (by omega)
    show (tjS (e + n) c b (tiS e b c n s)).1 ≤ _
    rw [Nat.add_mul]
    omega
theorem times_k {v6 v7 v8 v5 : Option M} {a b c i j e more : Nat} {s : Ply} (hc : c ≤ 6) (he : e + more = 3) (hi : i ≤ 6) (hj : j ≤ 6) (hs : s.1 ≤ 50000) :
    ∃ w5 w6 w7 w8, s__law_times_f2 [some (.fz (bxD a b c)), some (.fz (.list (iT s.1 s.2))), some (.fz (.int more)), some (.fz (.int (1 + (i : Int)))), some (.fz (.int (1 + (j : Int)))), v5, v6, v7, v8] = .ok (.nx, [some (.fz (bxD a b c)), some (.fz (.list (iT (tkS (e + i + j) c s).1 (tkS (e + i + j) c s).2))), some (.fz (.int more)), some (.fz (.int (1 + (i : Int)))), some (.fz (.int (1 + (j : Int)))), w5, w6, w7, w8]) := by
  have K := forRange (g := gN 5) (lo := 1) (n := c) (fb := s__law_times_f1) (fun n ev => ∃ x5 x6 x7 x8, ev = [some (.fz (bxD a b c)), some (.fz (.list (iT (tkS (e + i + j) n s).1 (tkS (e + i + j) n s).2))), some (.fz (.int more)), some (.fz (.int (1 + (i : Int)))), some (.fz (.int (1 + (j : Int)))), x5, x6, x7, x8])
    (ev := [some (.fz (bxD a b c)), some (.fz (.list (iT s.1 s.2))), some (.fz (.int more)), some (.fz (.int (1 + (i : Int)))), some (.fz (.int (1 + (j : Int)))), v5, v6, v7, v8]) ⟨v5, v6, v7, v8, rfl⟩ fun n ev hn ⟨x5, x6, x7, x8, q⟩ => by
      subst q
      have bd := tkS_bd (e := e + i + j) (s := s) n (by omega)
      obtain ⟨w6, w7, w8, q⟩ := tm_body (v0 := some (.fz (bxD a b c))) (v6 := x6) (v7 := x7) (v8 := x8) (L := (tkS (e + i + j) n s).1) (f := (tkS (e + i + j) n s).2) (i := 1 + i) (j := 1 + j) (k := 1 + n) (more := more) (p := e + i + j + n) (by omega) (by omega) (by omega)
      refine ⟨_, _, rfl, ?_, some (.fz (.int (1 + (n : Int)))), w6, w7, w8, rfl⟩
      rw [show ((1 + i : Nat) : Int) = 1 + (i : Int) by omega, show ((1 + j : Nat) : Int) = 1 + (j : Int) by omega, show ((1 + n : Nat) : Int) = 1 + (n : Int) by omega] at q
      exact q
  obtain ⟨ev', e1, w5, w6, w7, w8, e2⟩ := K
  subst e2
  refine ⟨w5, w6, w7, w8, ?_⟩
  unfold s__law_times_f2
  exact for_ok (by simp [rg2n (show c ≤ 1000 by omega)]) e1
theorem times_j {v4 v6 v7 v8 v5 : Option M} {a b c i e more : Nat} {s : Ply} (hb : b ≤ 6) (hc : c ≤ 6) (he : e + more = 3) (hi : i ≤ 6) (hs : s.1 ≤ 40000) :
    ∃ w4 w5 w6 w7 w8, s__law_times_f3 [some (.fz (bxD a b c)), some (.fz (.list (iT s.1 s.2))), some (.fz (.int more)), some (.fz (.int (1 + (i : Int)))), v4, v5, v6, v7, v8] = .ok (.nx, [some (.fz (bxD a b c)), some (.fz (.list (iT (tjS (e + i) c b s).1 (tjS (e + i) c b s).2))), some (.fz (.int more)), some (.fz (.int (1 + (i : Int)))), w4, w5, w6, w7, w8]) := by
  have K := forRange (g := gN 4) (lo := 1) (n := b) (fb := s__law_times_f2) (fun n ev => ∃ x4 x5 x6 x7 x8, ev = [some (.fz (bxD a b c)), some (.fz (.list (iT (tjS (e + i) c n s).1 (tjS (e + i) c n s).2))), some (.fz (.int more)), some (.fz (.int (1 + (i : Int)))), x4, x5, x6, x7, x8])
    (ev := [some (.fz (bxD a b c)), some (.fz (.list (iT s.1 s.2))), some (.fz (.int more)), some (.fz (.int (1 + (i : Int)))), v4, v5, v6, v7, v8]) ⟨v4, v5, v6, v7, v8, rfl⟩ fun n ev hn ⟨x4, x5, x6, x7, x8, q⟩ => by
      subst q
      have bd := tjS_bd (e := e + i) (s := s) hc n (by omega)
      obtain ⟨w5, w6, w7, w8, q⟩ := times_k (v5 := x5) (v6 := x6) (v7 := x7) (v8 := x8) (a := a) (b := b) (c := c) (i := i) (j := n) (e := e) (more := more) (s := tjS (e + i) c n s) hc he hi (by omega) (by omega)
      exact ⟨_, _, rfl, q, some (.fz (.int (1 + (n : Int)))), w5, w6, w7, w8, rfl⟩
  obtain ⟨ev', e1, w4, w5, w6, w7, w8, e2⟩ := K
  subst e2
  refine ⟨w4, w5, w6, w7, w8, ?_⟩
  unfold s__law_times_f3
  exact for_ok (by simp [rg2n (show b ≤ 1000 by omega)]) e1
theorem outs3b {a b c : Option M} {r : Ev} : outsOf 3 [0, 2] (a :: b :: c :: r) = [a, none, c] := (rfl)
theorem times_ok {a b c e more : Nat} {s : Ply} (B : Bx a b c) (he : e + more = 3) (hs : s.1 ≤ 10000) :
    F__law_times [.fz (bxD a b c), .fz (.list (iT s.1 s.2)), .fz (.int more)] = .ok (.fz (.list (iT (tiS e b c a s).1 (tiS e b c a s).2)), [some (.fz (bxD a b c)), none, some (.fz (.int more))]) := by
  obtain ⟨ha, hb, hc⟩ := B
  have K := forRange (g := gN 3) (lo := 1) (n := a) (fb := s__law_times_f3) (fun n ev => ∃ x3 x4 x5 x6 x7 x8, ev = [some (.fz (bxD a b c)), some (.fz (.list (iT (tiS e b c n s).1 (tiS e b c n s).2))), some (.fz (.int more)), x3, x4, x5, x6, x7, x8])
    (ev := [some (.fz (bxD a b c)), some (.fz (.list (iT s.1 s.2))), some (.fz (.int more)), none, none, none, none, none, none]) ⟨none, none, none, none, none, none, rfl⟩ fun n ev hn ⟨x3, x4, x5, x6, x7, x8, q⟩ => by
      subst q
      have bd := tiS_bd (e := e) (s := s) hc.2 hb.2 n (by omega)
      obtain ⟨w4, w5, w6, w7, w8, q⟩ := times_j (v4 := x4) (v5 := x5) (v6 := x6) (v7 := x7) (v8 := x8) (a := a) (b := b) (c := c) (i := n) (e := e) (more := more) (s := tiS e b c n s) hb.2 hc.2 he (by omega) (by omega)
      exact ⟨_, _, rfl, q, some (.fz (.int (1 + (n : Int)))), w4, w5, w6, w7, w8, rfl⟩
  obtain ⟨ev', e1, w3, w4, w5, w6, w7, w8, e2⟩ := K
  subst e2
  have key : s__law_times [some (.fz (bxD a b c)), some (.fz (.list (iT s.1 s.2))), some (.fz (.int more)), none, none, none, none, none, none] = .ok (.rt (.fz (.list (iT (tiS e b c a s).1 (tiS e b c a s).2))), [some (.fz (bxD a b c)), some (.fz (.list (iT (tiS e b c a s).1 (tiS e b c a s).2))), some (.fz (.int more)), w3, w4, w5, w6, w7, w8]) := by
    unfold s__law_times
    refine seq_ok (for_ok (items := rgI 1 a) (e := [some (.fz (bxD a b c)), some (.fz (.list (iT s.1 s.2))), some (.fz (.int more)), none, none, none, none, none, none]) (by simp [rg2n (show a ≤ 1000 by omega)]) e1) ?_
    simp [vM]
  have k2 := run_rt (N := 9) (n := 3) (pin := [0, 2]) (body := s__law_times) (ms := [.fz (bxD a b c), .fz (.list (iT s.1 s.2)), .fz (.int more)]) key
  rw [outs3b] at k2
  exact k2
/-! lists that the kernel can work with -/
def subL : List Int → List Int → List Int
  | x :: xs, y :: ys => (x - y) :: subL xs ys
  | _, _ => []
def zer (n : Nat) : List Int := List.replicate n 0
def tmL (p : Nat) (l : List Int) : List Int := subL (l ++ zer p) (zer p ++ l)
theorem subL_get : ∀ (l m : List Int) (i : Nat) (x y : Int), l[i]? = some x → m[i]? = some y → (subL l m)[i]? = some (x - y)
  | [], _, i, x, y, h, _ => by cases h
  | _ :: _, [], i, x, y, _, h => by cases h
  | a :: l, b :: m, 0, x, y, h, h' => by cases h; cases h'; rfl
  | a :: l, b :: m, i + 1, x, y, h, h' => subL_get l m i x y h h'
theorem subL_len : ∀ (l m : List Int), l.length ≤ m.length → (subL l m).length = l.length
  | [], _, _ => rfl
  | _ :: _, [], h => by cases h
  | a :: l, b :: m, h => by
    rw [subL, List.length_cons, List.length_cons, subL_len l m (by simpa using h)]
theorem tb_ext {n : Nat} {f : Nat → Int} {l : List Int} (hl : l.length = n) (h : ∀ i, i < n → l[i]? = some (f i)) : l = tb n f := by
  apply List.ext_getElem?
  intro i
  by_cases hi : i < n
  · rw [h i hi, tb_get hi]
  · rw [List.getElem?_eq_none (by omega), List.getElem?_eq_none (by rw [tb_len]; omega)]
theorem tmL_tb (L p : Nat) (f : Nat → Int) : tmL p (tb L f) = tb (L + p) (tmF L p f) := by
  refine tb_ext ?_ fun i hi => ?_
  · unfold tmL
    rw [subL_len] <;> simp [zer] <;> omega
  · have e : tmF L p f i = (if i < L then f i else 0) - (if p ≤ i then f (i - p) else 0) := by
      unfold tmF tmK
      congr 1
      by_cases h : p ≤ i
      · rw [if_pos ⟨h, by omega⟩, if_pos h]
      · rw [if_neg (by omega), if_neg h]
    rw [e]
    unfold tmL
    refine subL_get _ _ _ _ _ ?_ ?_
    · by_cases h : i < L
      · rw [if_pos h, List.getElem?_append_left (by rw [tb_len]; exact h), tb_get h]
      · rw [if_neg h, List.getElem?_append_right (by rw [tb_len]; omega), tb_len]
        unfold zer
        rw [List.getElem?_replicate, if_pos (by omega)]
    · by_cases h : p ≤ i
      · rw [if_pos h, List.getElem?_append_right (by simp [zer]; exact h)]
        unfold zer
        rw [List.length_replicate, tb_get (by omega)]
      · rw [if_neg h, List.getElem?_append_left (by simp [zer]; omega)]
        unfold zer
        rw [List.getElem?_replicate, if_pos (by omega)]
def tkL (e : Nat) : Nat → List Int → List Int
  | 0, s => s
  | n + 1, s => tmL (e + n) (tkL e n s)
def tjL (e c : Nat) : Nat → List Int → List Int
  | 0, s => s
  | n + 1, s => tkL (e + n) c (tjL e c n s)
def tiL (e b c : Nat) : Nat → List Int → List Int
  | 0, s => s
  | n + 1, s => tjL (e + n) c b (tiL e b c n s)
def plL (s : Ply) : List Int := tb s.1 s.2
theorem tkL_eq (e : Nat) (s : Ply) : ∀ n, tkL e n (plL s) = plL (tkS e n s)
  | 0 => rfl
  | n + 1 => by
    rw [tkL, tkL_eq e s n]
    exact tmL_tb _ _ _
theorem tjL_eq (e c : Nat) (s : Ply) : ∀ n, tjL e c n (plL s) = plL (tjS e c n s)
  | 0 => rfl
  | n + 1 => by
    rw [tjL, tjL_eq e c s n]
    exact tkL_eq _ _ _
theorem tiL_eq (e b c : Nat) (s : Ply) : ∀ n, tiL e b c n (plL s) = plL (tiS e b c n s)
  | 0 => rfl
  | n + 1 => by
    rw [tiL, tiL_eq e b c s n]
    exact tjL_eq _ _ _ _
end TW


set_option linter.all false
set_option maxRecDepth 100000
set_option maxHeartbeats 1000000
namespace TW
open PySem L2
/-! power series -/
def mulF (p : Nat) (f : Nat → Int) : Nat → Int := fun j => f j - (if p ≤ j then f (j - p) else 0)
def prodF (ps : List Nat) (f : Nat → Int) : Nat → Int := ps.foldr mulF f
theorem mulF_comm (p q : Nat) (f : Nat → Int) : mulF p (mulF q f) = mulF q (mulF p f) := by
  funext j
  unfold mulF
  by_cases hp : p ≤ j <;> by_cases hq : q ≤ j <;> simp only [hp, hq, if_true, if_false]
  · by_cases h : p + q ≤ j
    · rw [if_pos (show q ≤ j - p by omega), if_pos (show p ≤ j - q by omega), show j - p - q = j - q - p by omega]
      omega
    · rw [if_neg (show ¬ q ≤ j - p by omega), if_neg (show ¬ p ≤ j - q by omega)]
      omega
  · rw [if_neg (show ¬ q ≤ j - p by omega)]
    omega
  · rw [if_neg (show ¬ p ≤ j - q by omega)]
    omega
theorem prodF_perm {ps qs : List Nat} (h : ps.Perm qs) (f : Nat → Int) : prodF ps f = prodF qs f := by
  induction h with
  | nil => rfl
  | cons x _ ih => show mulF x (prodF _ f) = mulF x (prodF _ f); rw [ih]
  | swap x y l => exact mulF_comm _ _ _
  | trans _ _ ih1 ih2 => rw [ih1, ih2]
theorem prodF_app (ps qs : List Nat) (f : Nat → Int) : prodF (ps ++ qs) f = prodF ps (prodF qs f) := by
  unfold prodF
  rw [List.foldr_append]
theorem prodF_mul (p : Nat) (f : Nat → Int) : ∀ ps : List Nat, prodF ps (mulF p f) = mulF p (prodF ps f)
  | [] => rfl
  | q :: ps => by
    show mulF q (prodF ps (mulF p f)) = mulF p (mulF q (prodF ps f))
    rw [prodF_mul p f ps, mulF_comm]
theorem mulF_inj {p : Nat} (hp : 0 < p) {f g : Nat → Int} (h : mulF p f = mulF p g) : f = g := by
  funext j
  induction j using Nat.strongRecOn with
  | ind j ih =>
    have e := congrFun h j
    unfold mulF at e
    by_cases q : p ≤ j
    · rw [if_pos q, if_pos q, ih (j - p) (by omega)] at e
      omega
    · rw [if_neg q, if_neg q] at e
      omega
theorem prodF_inj {f g : Nat → Int} : ∀ {ps : List Nat}, (∀ p ∈ ps, 0 < p) → prodF ps f = prodF ps g → f = g
  | [], _, h => h
  | p :: ps, hp, h => prodF_inj (fun q hq => hp q (List.mem_cons_of_mem _ hq)) (mulF_inj (hp p (List.mem_cons_self ..)) h)
theorem dnF_mul (p : Nat) (f : Nat → Int) : dnF p f = mulF (p + 1) f := by
  funext j
  unfold dnF mulF
  by_cases h : p + 1 ≤ j
  · rw [if_pos h, if_pos h]; rfl
  · rw [if_neg h, if_neg h, Int.sub_zero]
theorem up_mul {p : Nat} (hp : 0 < p) (f : Nat → Int) : mulF p (upF p f) = f := by
  funext j
  unfold mulF
  by_cases h : p ≤ j
  · rw [if_pos h, upF, dif_pos ⟨hp, h⟩]
    omega
  · rw [if_neg h, upF, dif_neg (by omega)]
    omega
theorem szF_prod : ∀ (ps : List Nat) (f : Nat → Int), (∀ p ∈ ps, 0 < p) → prodF ps (szF ps f) = prodF (ps.map (· + 1)) f
  | [], f, _ => rfl
  | p :: ps, f, h => by
    show mulF p (prodF ps (szF ps (upF p (dnF p f)))) = prodF ((p + 1) :: ps.map (· + 1)) f
    rw [szF_prod ps _ fun q hq => h q (List.mem_cons_of_mem _ hq), ← prodF_mul, up_mul (h p (List.mem_cons_self ..)), dnF_mul, prodF_mul]
    rfl
/-- the coefficients of a list -/
def cf : List Int → Nat → Int
  | [], _ => 0
  | x :: _, 0 => x
  | _ :: xs, n + 1 => cf xs n
theorem cf_some : ∀ (l : List Int) (i : Nat) (x : Int), l[i]? = some x → cf l i = x
  | [], i, x, h => by cases h
  | a :: l, 0, x, h => by cases h; rfl
  | a :: l, i + 1, x, h => cf_some l i x h
theorem cf_none : ∀ (l : List Int) (i : Nat), l.length ≤ i → cf l i = 0
  | [], _, _ => rfl
  | a :: l, 0, h => by cases h
  | a :: l, i + 1, h => cf_none l i (by simpa using h)
theorem cf_tb (n : Nat) (f : Nat → Int) (j : Nat) : cf (tb n f) j = if j < n then f j else 0 := by
  by_cases h : j < n
  · rw [if_pos h]; exact cf_some _ _ _ (tb_get h)
  · rw [if_neg h]; exact cf_none _ _ (by rw [tb_len]; omega)
theorem tb_cf (l : List Int) : l = tb l.length (cf l) := tb_ext rfl fun i hi => by
  rw [List.getElem?_eq_getElem hi, cf_some l i _ (List.getElem?_eq_getElem hi)]
theorem list_cf {l m : List Int} (h1 : l.length = m.length) (h2 : cf l = cf m) : l = m := by
  rw [tb_cf l, tb_cf m, h1, h2]
theorem cf_tmL (p : Nat) (l : List Int) : cf (tmL p l) = mulF p (cf l) := by
  have e := tmL_tb l.length p (cf l)
  rw [← tb_cf] at e
  rw [e]
  funext j
  rw [cf_tb]
  unfold tmF tmK mulF
  by_cases h : j < l.length + p
  · rw [if_pos h]
    congr 1
    · by_cases h2 : j < l.length
      · rw [if_pos h2]
      · rw [if_neg h2, cf_none _ _ (by omega)]
    · by_cases h2 : p ≤ j
      · rw [if_pos ⟨h2, by omega⟩, if_pos h2]
      · rw [if_neg (by omega), if_neg h2]
  · rw [if_neg h, cf_none _ _ (by omega)]
    by_cases h2 : p ≤ j
    · rw [if_pos h2, cf_none _ _ (by omega)]; rfl
    · rw [if_neg h2]; rfl
theorem len_tmL (p : Nat) (l : List Int) : (tmL p l).length = l.length + p := by
  have e := tmL_tb l.length p (cf l)
  rw [← tb_cf] at e
  rw [e, tb_len]
def sumN (l : List Nat) : Nat := l.foldr (· + ·) 0
theorem sumN_app : ∀ (l m : List Nat), sumN (l ++ m) = sumN l + sumN m
  | [], m => by simp [sumN]
  | x :: l, m => by
    have := sumN_app l m
    simp only [sumN, List.cons_append, List.foldr_cons] at this ⊢
    omega
/-- a product of a list with the powers of a list of numbers -/
def tmsL (ps : List Nat) (l : List Int) : List Int := ps.foldl (fun l p => tmL p l) l
theorem cf_tmsL : ∀ (ps : List Nat) (l : List Int), cf (tmsL ps l) = prodF ps (cf l)
  | [], l => rfl
  | p :: ps, l => by
    show cf (tmsL ps (tmL p l)) = mulF p (prodF ps (cf l))
    rw [cf_tmsL ps, cf_tmL, prodF_mul]
theorem len_tmsL : ∀ (ps : List Nat) (l : List Int), (tmsL ps l).length = l.length + sumN ps
  | [], l => by simp [tmsL, sumN]
  | p :: ps, l => by
    show (tmsL ps (tmL p l)).length = l.length + (p + sumN ps)
    rw [len_tmsL ps, len_tmL]
    omega
theorem tmsL_app (ps qs : List Nat) (l : List Int) : tmsL (ps ++ qs) l = tmsL qs (tmsL ps l) := by
  unfold tmsL
  rw [List.foldl_append]
def plK' (e c : Nat) : List Nat := (List.range c).map fun k => e + k
def plJ' (e b c : Nat) : List Nat := (List.range b).flatMap fun j => plK' (e + j) c
def plE (e a b c : Nat) : List Nat := (List.range a).flatMap fun i => plJ' (e + i) b c
theorem tkL_tms (e : Nat) (l : List Int) : ∀ n, tkL e n l = tmsL (plK' e n) l
  | 0 => rfl
  | n + 1 => by
    rw [tkL, tkL_tms e l n]
    unfold plK'
    rw [List.range_succ, List.map_append, tmsL_app]
    rfl
theorem tjL_tms (e c : Nat) (l : List Int) : ∀ n, tjL e c n l = tmsL (plJ' e n c) l
  | 0 => rfl
  | n + 1 => by
    rw [tjL, tjL_tms e c l n, tkL_tms]
    unfold plJ'
    rw [List.range_succ, List.flatMap_append, tmsL_app]
    simp
theorem tiL_tms (e b c : Nat) (l : List Int) : ∀ n, tiL e b c n l = tmsL (plE e n b c) l
  | 0 => rfl
  | n + 1 => by
    rw [tiL, tiL_tms e b c l n, tjL_tms]
    unfold plE
    rw [List.range_succ, List.flatMap_append, tmsL_app]
    simp
theorem plN_E (a b c : Nat) : plN a b c = plE 1 a b c := by
  unfold plN plE plJ' plK'
  congr 1
  funext i
  congr 1
  funext j
  apply List.map_congr_left
  intro k _
  omega
theorem plE_succ (e a b c : Nat) : (plE e a b c).map (· + 1) = plE (e + 1) a b c := by
  unfold plE plJ' plK'
  rw [List.map_flatMap]
  congr 1
  funext i
  rw [List.map_flatMap]
  congr 1
  funext j
  rw [List.map_map]
  apply List.map_congr_left
  intro k _
  show e + i + j + k + 1 = e + 1 + i + j + k
  omega
theorem sumN_succ : ∀ l : List Nat, sumN (l.map (· + 1)) = sumN l + l.length
  | [] => rfl
  | x :: l => by
    have := sumN_succ l
    simp only [sumN, List.map_cons, List.foldr_cons, List.length_cons] at this ⊢
    omega
theorem fm_len_eq {α β : Type} (f : α → List β) (k : Nat) : ∀ l : List α, (∀ x ∈ l, (f x).length = k) → (l.flatMap f).length = l.length * k
  | [], _ => by simp
  | x :: l, h => by
    rw [List.flatMap_cons, List.length_append, List.length_cons, h x (List.mem_cons_self ..), fm_len_eq f k l fun y hy => h y (List.mem_cons_of_mem _ hy), Nat.add_mul]
    omega
theorem plE_len (e a b c : Nat) : (plE e a b c).length = a * b * c := by
  unfold plE
  rw [fm_len_eq _ (b * c) _ fun i _ => ?_, List.length_range, Nat.mul_assoc]
  unfold plJ'
  rw [fm_len_eq _ c _ fun j _ => ?_, List.length_range]
  unfold plK'
  rw [List.length_map, List.length_range]
theorem plE_pos {e a b c p : Nat} (he : 0 < e) (h : p ∈ plE e a b c) : 0 < p := by
  obtain ⟨i, _, h⟩ := List.mem_flatMap.mp h
  obtain ⟨j, _, h⟩ := List.mem_flatMap.mp h
  obtain ⟨k, _, rfl⟩ := List.mem_map.mp h
  omega
/-- the polynomial of sizes by a list that has it -/
theorem cert {a b c : Nat} {T : List Int} (hT : T.length = a * b * c + 1) (h : prodF (plE 1 a b c) (cf T) = prodF (plE 2 a b c) one0) :
    tb (a * b * c + 1) (szF (plN a b c) one0) = T ∧ tiL 1 b c a T = tiL 2 b c a [1] := by
  have hS := szF_prod (plN a b c) one0 fun p hp => plE_pos (e := 1) (by omega) (by rw [plN_E] at hp; exact hp)
  rw [plN_E, plE_succ] at hS
  rw [← h] at hS
  have e := prodF_inj (fun p hp => plE_pos (e := 1) (by omega) hp) hS
  have h1 : cf [1] = one0 := by
    funext j
    match j with
    | 0 => rfl
    | j + 1 => rfl
  refine ⟨?_, ?_⟩
  · rw [plN_E, e, ← hT]
    exact (tb_cf T).symm
  · rw [tiL_tms, tiL_tms]
    refine list_cf ?_ ?_
    · rw [len_tmsL, len_tmsL, hT, ← plE_succ 1, sumN_succ, plE_len, List.length_singleton]
      omega
    · rw [cf_tmsL, cf_tmsL, h1]
      exact h
end TW


set_option linter.all false
set_option maxRecDepth 100000
set_option maxHeartbeats 1000000
namespace TW
open PySem L2
def shL (p : Nat) (l : List Int) : List Int := subL l (zer p ++ l)
def nthI : List Int → Nat → Int
  | [], _ => 0
  | x :: _, 0 => x
  | _ :: xs, n + 1 => nthI xs n
def upA (p : Nat) : List Int → List Int → List Int
  | acc, [] => acc.reverse
  | acc, x :: xs => upA p ((x + nthI acc (p - 1)) :: acc) xs
def plIJ (e a b : Nat) : List Nat := (List.range a).flatMap fun i => (List.range b).map fun j => e + i + j
def certT (a b c : Nat) : List Int := (plIJ 1 a b).foldl (fun l p => upA p [] (shL (p + c) l)) (1 :: zer (a * b * c))
def eqL : List Int → List Int → Bool
  | [], [] => true
  | x :: xs, y :: ys => decide (x = y) && eqL xs ys
  | _, _ => false
theorem eqL_ok : ∀ {l m : List Int}, eqL l m = true → l = m
  | [], [], _ => rfl
  | x :: xs, y :: ys, h => by
    rw [eqL, Bool.and_eq_true, decide_eq_true_eq] at h
    rw [h.1, eqL_ok h.2]
  | [], _ :: _, h => by cases h
  | _ :: _, [], h => by cases h
def numB (a b c : Nat) : Int := pi 0 b c a 1 / pi 1 b c a 1
def chkA (a b c : Nat) : Bool := if a ≤ b ∧ b ≤ c ∧ a * b * c < 65 then
  (fun T => decide (T.length = a * b * c + 1) && decide (T.sum = numB a b c) && eqL (tmsL (plIJ 1 a b) T) (tmsL (plIJ (c + 1) a b) [1])) (certT a b c) else true
theorem chkA_all : allBx chkA = true := by decide +kernel
def srt (a b c : Nat) : Nat × Nat × Nat := (min a (min b c), max (min a b) (min (max a b) c), max a (max b c))
def chkB1 (a b c x y z : Nat) : Bool := decide (x ≤ y ∧ y ≤ z ∧ 1 ≤ x ∧ z ≤ 6) && decide (a * b * c = x * y * z) && decide (numB a b c = numB x y z) && (plE 1 a b c).isPerm (plE 2 x y (z - 1) ++ plIJ 1 x y) && (plE 2 a b c).isPerm (plE 2 x y (z - 1) ++ plIJ (z + 1) x y)
def chkB (a b c : Nat) : Bool := if a * b * c < 65 then chkB1 a b c (srt a b c).1 (srt a b c).2.1 (srt a b c).2.2 else true
theorem chkB_all : allBx chkB = true := by decide +kernel
theorem sizes_facts {a b c : Nat} (B : Bx a b c) (hv : a * b * c < 65) : (tb (a * b * c + 1) (szF (plN a b c) one0)).sum = numB a b c ∧ tiL 1 b c a (tb (a * b * c + 1) (szF (plN a b c) one0)) = tiL 2 b c a [1] := by
  have h := allBx_at chkB_all B
  unfold chkB at h
  rw [if_pos hv] at h
  revert h
  generalize (srt a b c).1 = x
  generalize (srt a b c).2.1 = y
  generalize (srt a b c).2.2 = z
  intro h
  unfold chkB1 at h
  simp only [Bool.and_eq_true, decide_eq_true_eq] at h
  obtain ⟨⟨⟨⟨⟨h1, h2, h3, h4⟩, h5⟩, h6⟩, h7⟩, h8⟩ := h
  have p7 := List.isPerm_iff.mp h7
  have p8 := List.isPerm_iff.mp h8
  have k := allBx_at chkA_all (a := x) (b := y) (c := z) ⟨⟨h3, by omega⟩, ⟨by omega, by omega⟩, ⟨by omega, by omega⟩⟩
  unfold chkA at k
  rw [if_pos ⟨h1, h2, by omega⟩] at k
  revert k
  generalize certT x y z = T
  intro k
  simp only [Bool.and_eq_true, decide_eq_true_eq] at k
  obtain ⟨⟨k1, k2⟩, k3⟩ := k
  have k3 := eqL_ok k3
  have e1 : cf [1] = one0 := by
    funext j
    match j with
    | 0 => rfl
    | j + 1 => rfl
  have k4 : prodF (plIJ 1 x y) (cf T) = prodF (plIJ (z + 1) x y) one0 := by
    rw [← cf_tmsL, k3, cf_tmsL, e1]
  have k5 : prodF (plE 1 a b c) (cf T) = prodF (plE 2 a b c) one0 := by
    rw [prodF_perm p7, prodF_perm p8, prodF_app, prodF_app, k4]
  obtain ⟨c1, c2⟩ := cert (by rw [k1, h5]) k5
  rw [c1]
  exact ⟨by rw [k2, h6], c2⟩
end TW


set_option linter.all false
set_option maxRecDepth 100000
set_option maxHeartbeats 1000000
namespace TW
open PySem L2
/-! repr, == -/
structure RO' (w k : Nat) (d : PyData) : Prop where
  sh : d.showable = true
  lv : d.leavesShort 13 = true
  wt : d.weight ≤ w
  dp : d.depth ≤ k
  nd : d.hasDict = false
theorem RO'.mono {w k w' k' : Nat} {d : PyData} (h : RO' w k d) (h1 : w ≤ w') (h2 : k ≤ k') : RO' w' k' d := ⟨h.sh, h.lv, Nat.le_trans h.wt h1, Nat.le_trans h.dp h2, h.nd⟩
theorem log2_lt {n k : Nat} (h : n < 2 ^ k) (hk : 0 < k) : n.log2 < k := by
  by_cases h0 : n = 0
  · subst h0; simpa using hk
  · exact (Nat.log2_lt h0).mpr h
theorem ro_int {i : Int} (h : i.natAbs < 1000000000000) : RO' 41 0 (.int i) := by
  have l : i.natAbs.log2 < 40 := log2_lt (by
    have : (2 : Nat) ^ 40 = 1099511627776 := by decide
    omega) (by omega)
  refine ⟨by simp only [PyData.showable, decide_eq_true_eq]; omega, ?_, ?_, by simp [PyData.depth], by simp [PyData.hasDict]⟩
  · simp only [PyData.leavesShort, decide_eq_true_eq]
    exact PyData.shown_int_le (by
      have : (10 : Nat) ^ 12 = 1000000000000 := by decide
      omega)
  · simp only [PyData.weight]
    split <;> omega
theorem ro_lt (l : Bool) : RO' 2 0 (lt l) := by
  cases l
  · exact ⟨by simp [lt, PyData.showable], by simp only [lt, PyData.leavesShort]; decide, by simp only [lt, PyData.weight]; decide, by simp [lt, PyData.depth], by simp [lt, PyData.hasDict]⟩
  · exact ⟨by simp [lt, PyData.showable], by simp only [lt, PyData.leavesShort]; decide, by simp only [lt, PyData.weight]; decide, by simp [lt, PyData.depth], by simp [lt, PyData.hasDict]⟩
theorem ro_all {w k : Nat} : ∀ (l : List PyData), (∀ d ∈ l, RO' w k d) → PyData.showableAll l = true ∧ PyData.leavesShortAll 13 l = true ∧ PyData.weightAll l ≤ l.length * (w + 1) ∧ PyData.depthAll l ≤ k + 1 ∧ PyData.hasDictAll l = false
  | [], _ => ⟨rfl, rfl, by simp [PyData.weightAll], by simp [PyData.depthAll], rfl⟩
  | d :: l, h => by
    obtain ⟨h1, h2, h3, h4, h5⟩ := ro_all l fun x hx => h x (List.mem_cons_of_mem _ hx)
    have hd := h d (List.mem_cons_self ..)
    refine ⟨by simp [PyData.showableAll, hd.sh, h1], by simp [PyData.leavesShortAll, hd.lv, h2], ?_, ?_, by simp [PyData.hasDictAll, hd.nd, h5]⟩
    · simp only [PyData.weightAll, List.length_cons]
      have := hd.wt
      rw [Nat.add_mul]
      omega
    · simp only [PyData.depthAll]
      have := hd.dp
      omega
theorem ro_tup {w k n : Nat} {l : List PyData} (h : ∀ d ∈ l, RO' w k d) (hn : l.length ≤ n) : RO' (n * (w + 1)) (k + 2) (.tuple l) := by
  obtain ⟨h1, h2, h3, h4, h5⟩ := ro_all l h
  have := Nat.mul_le_mul_right (w + 1) hn
  refine ⟨by simpa [PyData.showable] using h1, by simpa [PyData.leavesShort] using h2, by simp only [PyData.weight]; omega, by simp only [PyData.depth]; omega, by simpa [PyData.hasDict] using h5⟩
theorem ro_list {w k n : Nat} {l : List PyData} (h : ∀ d ∈ l, RO' w k d) (hn : l.length ≤ n) : RO' (n * (w + 1)) (k + 2) (.list l) := by
  obtain ⟨h1, h2, h3, h4, h5⟩ := ro_all l h
  have := Nat.mul_le_mul_right (w + 1) hn
  refine ⟨by simpa [PyData.showable] using h1, by simpa [PyData.leavesShort] using h2, by simp only [PyData.weight]; omega, by simp only [PyData.depth]; omega, by simpa [PyData.hasDict] using h5⟩
theorem repr_ro {w k : Nat} {d : PyData} (h : RO' w k d) (hw : w ≤ 1000000) (hk : k ≤ 60) : sRepr d = sret (.str d.shown) := by
  have e := PyData.shown_le 13 (by decide) d h.lv
  have := h.wt
  have := h.dp
  unfold sRepr
  rw [if_pos ⟨h.sh, by omega, by omega⟩]
theorem repr_int {i : Int} (h : i.natAbs < 10000000000000) : sRepr (.int i) = sret (.str (PyData.shown (.int i))) := by
  have l : i.natAbs.log2 < 44 := log2_lt (by
    have : (2 : Nat) ^ 44 = 17592186044416 := by decide
    omega) (by omega)
  have e : (PyData.shown (.int i)).length ≤ 16777216 := by
    have := int_text_length_le (k := 44) (by decide) l
    show (Str.ofString (toString i)).length ≤ _
    rw [ofString_length]
    omega
  unfold sRepr
  rw [if_pos ⟨by simp only [PyData.showable, decide_eq_true_eq]; omega, e, by simp [PyData.depth]⟩]
theorem neStr (x : Str) : sCmp .NotEq (.str x) (.str x) = sret false := by
  show sopt (if min (PyData.depth (.str x)) (PyData.depth (.str x)) ≤ 60 then some (!PyData.eqv (.str x) (.str x)) else none) = _
  have : PyData.eqv (.str x) (.str x) = true := by rw [PyData.eqv]; simp
  rw [this]
  rfl
theorem eqStrS (x : Str) : sCmp .Eq (.str x) (.str x) = sret true := by
  rw [eqStr]
  simp
mutual
theorem eqv_refl : ∀ d : PyData, d.hasDict = false → PyData.eqv d d = true
  | .none, _ => by rw [PyData.eqv]
  | .bool b, _ => by rw [PyData.eqv]; simp
  | .int b, _ => by rw [PyData.eqv]; simp
  | .str b, _ => by rw [PyData.eqv]; simp
  | .list l, h => by rw [PyData.eqv]; exact eqvAll_refl l (by simpa [PyData.hasDict] using h)
  | .tuple l, h => by rw [PyData.eqv]; exact eqvAll_refl l (by simpa [PyData.hasDict] using h)
  | .dict _, h => by simp [PyData.hasDict] at h
theorem eqvAll_refl : ∀ l : List PyData, PyData.hasDictAll l = false → PyData.eqvAll l l = true
  | [], _ => by rw [PyData.eqvAll]
  | d :: l, h => by
    have h' : d.hasDict = false ∧ PyData.hasDictAll l = false := by simpa [PyData.hasDictAll] using h
    rw [PyData.eqvAll, eqv_refl d h'.1, eqvAll_refl l h'.2]
    rfl
end
theorem ne_same {d : PyData} {w k : Nat} (h : RO' w k d) (hk : k ≤ 60) : sCmp .NotEq d d = sret false := by
  show sopt (if min d.depth d.depth ≤ 60 then some (!PyData.eqv d d) else none) = _
  have := h.dp
  rw [if_pos (by omega), eqv_refl d h.nd]
  rfl
theorem ro_rowL {l : List Int} (h : Small l) : RO' 42000 2 (rowL l) := by
  have := ro_tup (w := 41) (k := 0) (n := 1000) (l := l.map .int) (fun d hd => by
    obtain ⟨i, hi, rfl⟩ := List.mem_map.mp hd
    have := h.2 i hi
    exact ro_int (by omega)) (by rw [List.length_map]; exact h.1)
  exact this
theorem ro_row {b : Nat} {f : Nat → Int} (hb : b ≤ 6) (h : ∀ j, j < b → (f j).natAbs < 1000000000000) : RO' 252 2 (rowT b f) := by
  rw [rowT_eq]
  refine ro_tup (w := 41) (k := 0) (n := 6) (fun d hd => ?_) (by rw [iT_len]; exact hb)
  obtain ⟨j, hj, rfl⟩ := tb_mem hd
  exact ro_int (h j hj)
theorem ro_hp {a b : Nat} {g : Nat → Nat → Int} (ha : a ≤ 6) (hb : b ≤ 6) (h : ∀ i j, i < a → j < b → (g i j).natAbs < 1000000000000) : RO' 1518 4 (hpT a b g) := by
  rw [hpT_eq]
  refine ro_tup (w := 252) (k := 2) (n := 6) (fun d hd => ?_) (by rw [rT_len]; exact ha)
  obtain ⟨i, hi, rfl⟩ := tb_mem hd
  exact ro_row hb fun j hj => h i j hi hj
theorem ro_bx {a b c : Nat} (B : Bx a b c) : RO' 126 2 (bxD a b c) := by
  refine ro_tup (w := 41) (k := 0) (n := 3) (fun d hd => ?_) (by simp)
  simp only [List.mem_cons, List.not_mem_nil, or_false] at hd
  have := B.ha
  have := B.hb
  have := B.hc
  rcases hd with rfl | rfl | rfl <;> exact ro_int (by omega)
theorem ro_pair {w k : Nat} {d e : PyData} (h1 : RO' w k d) (h2 : RO' w k e) : RO' (2 * (w + 1)) (k + 2) (.tuple [d, e]) :=
  ro_tup (fun x hx => by
    simp only [List.mem_cons, List.not_mem_nil, or_false] at hx
    rcases hx with rfl | rfl
    · exact h1
    · exact h2) (by simp)
theorem ro_path {p : List Bool} (h : p.length ≤ 100) : RO' 300 2 (pathD p) := by
  refine ro_tup (w := 2) (k := 0) (n := 100) (fun d hd => ?_) (by rw [ltD_len]; exact h)
  obtain ⟨l, _, rfl⟩ := List.mem_map.mp hd
  exact ro_lt l
theorem ro_paths {ps : List (List Bool)} (h : ∀ p ∈ ps, p.length ≤ 100) (hn : ps.length ≤ 100) : RO' 30100 4 (.tuple (ps.map pathD)) := by
  refine ro_tup (w := 300) (k := 2) (n := 100) (fun d hd => ?_) (by rw [List.length_map]; exact hn)
  obtain ⟨p, hp, rfl⟩ := List.mem_map.mp hd
  exact ro_path (h p hp)
/-- a draw -/
theorem draw_call {i : Nat} {ev : Ev} {s0 s1 m : Int} {fm : Sm PyData} (h : ev[i]? = some (some (stM s0 s1))) (hf : fm ev = .ok (.int m, ev)) (hm : 0 < m ∧ m < 1000000) :
    ∃ r t0 t1, (0 ≤ r ∧ r < m) ∧ (sCall F__law_draw (sArgS i (sArgV fm (sret [])))) ev = .ok (.fz (.int r), ev.set i (some (stM t0 t1))) := by
  obtain ⟨r, t0, t1, hr, e⟩ := draw_ok s0 s1 m hm.1 hm.2
  refine ⟨r, t0, t1, hr, ?_⟩
  have q : stM s0 s1 = .ml [.fz (.int s0), .fz (.int s1)] := rfl
  rw [q] at e h
  simp [h, hf, slotsOf, resA, putA, e]
end TW


set_option linter.all false
set_option maxRecDepth 100000
set_option maxHeartbeats 1000000
namespace TW
open PySem L2
theorem cell_ok (ns : List Int) : ∃ x : Int, F__law_cell [.sc ns, .fz (.int 0)] = .ok (.fz (.int x), [some (.sc ns), some (.fz (.int 0))]) := by
  have fl : flat (.sc ns) = some (.list (ns.map .int)) := rfl
  cases ns with
  | nil =>
    refine ⟨0, ?_⟩
    have key : s__law_cell [some (.sc []), some (.fz (.int 0))] = .ok (.rt (.fz (.int 0)), [some (.sc []), some (.fz (.int 0))]) := by
      unfold s__law_cell
      simp [fl]
    have k2 := run_rt (N := 2) (n := 2) (pin := [0, 1]) (body := s__law_cell) (ms := [.sc [], .fz (.int 0)]) key
    rw [outs2] at k2
    exact k2
  | cons n ns =>
    refine ⟨n, ?_⟩
    have e : atI (PyData.int n :: ns.map .int) 0 = some (.int n) := by
      have := atI_get (l := PyData.int n :: ns.map .int) (i := 0) rfl
      simpa using this
    have hl : (0 : Int) < (ns.length : Int) + 1 := by omega
    have key : s__law_cell [some (.sc (n :: ns)), some (.fz (.int 0))] = .ok (.rt (.fz (.int n)), [some (.sc (n :: ns)), some (.fz (.int 0))]) := by
      unfold s__law_cell
      simp [fl, e, hl]
    have k2 := run_rt (N := 2) (n := 2) (pin := [0, 1]) (body := s__law_cell) (ms := [.sc (n :: ns), .fz (.int 0)]) key
    rw [outs2] at k2
    exact k2
@[simp] theorem e_abs (i : Int) : sAbs (.int i) = sret (.int (if i < 0 then -i else i)) := rfl
theorem stream_ok (ns : List Int) : ∃ s0 s1 : Int, F__law_stream [.sc ns, .fz (.int 0)] = .ok (stM s0 s1, [some (.sc ns), some (.fz (.int 0))]) := by
  obtain ⟨x, e⟩ := cell_ok ns
  refine ⟨if x < 0 then -x else x, (if x < 0 then -x else x) % 1000003 + 7, ?_⟩
  have key : s__law_stream [some (.sc ns), some (.fz (.int 0))] = .ok (.rt (stM (if x < 0 then -x else x) ((if x < 0 then -x else x) % 1000003 + 7)), [some (.sc ns), some (.fz (.int 0))]) := by
    unfold s__law_stream
    simp [slotsOf, resA, putA, e]
    rfl
  have k2 := run_rt (N := 2) (n := 2) (pin := [0, 1]) (body := s__law_stream) (ms := [.sc ns, .fz (.int 0)]) key
  rw [outs2] at k2
  exact k2
/-- the box -/
theorem box_step {v0 : Option M} {s0 s1 : Int} {x : Option M} {acc : List M} (ha : acc.length < 10) : ∃ (r t0 t1 : Int), (1 ≤ r ∧ r ≤ 6) ∧ tlLast s_law_e0 acc [v0, some (stM s0 s1), none, none, none, none, none, none, none, none, none, none, none, none, none, x, none] = some (acc ++ [.fz (.int r)], [v0, some (stM t0 t1), none, none, none, none, none, none, none, none, none, none, none, none, none, x, none]) := by
  obtain ⟨r, t0, t1, hr, e⟩ := draw_call (i := 1) (ev := [v0, some (stM s0 s1), none, none, none, none, none, none, none, none, none, none, none, none, none, x, none]) (s0 := s0) (s1 := s1) (fm := sret (.int 6)) (m := 6) rfl rfl (by omega)
  refine ⟨1 + r, t0, t1, ⟨by omega, by omega⟩, ?_⟩
  refine tl_last (by omega) ?_
  unfold s_law_e0
  refine bd_ok (a := .int 1) rfl (bd_ok (a := .int r) (bd_ok e rfl) rfl)
theorem box_ok (ns : List Int) (s0 s1 : Int) : ∃ (a b c : Nat) (t0 t1 : Int), Bx a b c ∧ s_law_c1 [some (.sc ns), some (stM s0 s1), none, none, none, none, none, none, none, none, none, none, none, none, none, none, none] = .ok (.ml ([PyData.int a, .int b, .int c].map .fz), [some (.sc ns), some (stM t0 t1), none, none, none, none, none, none, none, none, none, none, none, none, none, none, none]) := by
  obtain ⟨a, u0, u1, ha, ea⟩ := box_step (v0 := some (.sc ns)) (s0 := s0) (s1 := s1) (x := some (.fz (.int 0))) (acc := []) (by simp)
  obtain ⟨b, w0, w1, hb, eb⟩ := box_step (v0 := some (.sc ns)) (s0 := u0) (s1 := u1) (x := some (.fz (.int 1))) (acc := [.fz (.int a)]) (by simp)
  obtain ⟨c, t0, t1, hc, ec⟩ := box_step (v0 := some (.sc ns)) (s0 := w0) (s1 := w1) (x := some (.fz (.int 2))) (acc := [.fz (.int a), .fz (.int b)]) (by simp)
  refine ⟨a.toNat, b.toNat, c.toNat, t0, t1, ⟨by omega, by omega, by omega⟩, ?_⟩
  rw [show ((a.toNat : Nat) : Int) = a by omega, show ((b.toNat : Nat) : Int) = b by omega, show ((c.toNat : Nat) : Int) = c by omega]
  have hr : rgI 0 3 = [.int 0, .int 1, .int 2] := rfl
  unfold s_law_c1 sLg
  have hfi : (bd (sret (.int 3)) sRg1) [some (.sc ns), some (stM s0 s1), none, none, none, none, none, none, none, none, none, none, none, none, none, none, none] = .ok (rgI 0 3, [some (.sc ns), some (stM s0 s1), none, none, none, none, none, none, none, none, none, none, none, none, none, none, none]) := by
    have := rg1n (n := 3) (by omega)
    refine bd_ok (a := .int 3) rfl ?_
    show sRg1 (.int ((3 : Nat) : Int)) _ = _
    rw [this]
    rfl
  rw [e_bd, hfi]
  show sLgT [15] (gN 15) (sret true) (tlLast s_law_e0) (rgI 0 3) _ = _
  unfold sLgT
  have hn : ([15].all fun v => notMl ([some (.sc ns), some (stM s0 s1), none, none, none, none, none, none, none, none, none, none, none, none, none, none, none] : Ev)[v]?) = true := rfl
  rw [if_pos hn, hr]
  have L : loopG [15] (gN 15) (sret true) (tlLast s_law_e0) [.int 0, .int 1, .int 2] [] (wipeE [some (.sc ns), some (stM s0 s1), none, none, none, none, none, none, none, none, none, none, none, none, none, none, none] [15]) = some ([.fz (.int a), .fz (.int b), .fz (.int c)], [some (.sc ns), some (stM t0 t1), none, none, none, none, none, none, none, none, none, none, none, none, none, none, none]) := by
    rw [loop_cons (ev1 := [some (.sc ns), some (stM s0 s1), none, none, none, none, none, none, none, none, none, none, none, none, none, some (.fz (.int 0)), none]) rfl]
    simp only [e_ret]
    rw [ea]
    simp only []
    rw [loop_cons (ev1 := [some (.sc ns), some (stM u0 u1), none, none, none, none, none, none, none, none, none, none, none, none, none, some (.fz (.int 1)), none]) rfl]
    simp only [e_ret]
    rw [List.nil_append, eb]
    simp only []
    rw [loop_cons (ev1 := [some (.sc ns), some (stM w0 w1), none, none, none, none, none, none, none, none, none, none, none, none, none, some (.fz (.int 2)), none]) rfl]
    simp only [e_ret]
    rw [List.cons_append, List.nil_append, ec]
    rfl
  rw [L]
  rfl
end TW


set_option linter.all false
set_option maxRecDepth 100000
set_option maxHeartbeats 1000000
namespace TW
open PySem L2
def V (ns : List Int) (st : M) (bx due hp kp pa : PyData) (x7 x8 : Option M) (a b c : Nat) (x12 x13 x14 x15 : Option M) : Ev :=
  [some (.sc ns), some st, some (.fz bx), some (.fz due), some (.fz hp), some (.fz kp), some (.fz pa), x7, x8, some (.fz (.int a)), some (.fz (.int b)), some (.fz (.int c)), x12, x13, x14, x15, none]
def pM (l : List Bool) : M := .ml ((ltD l).map .fz)
def dM (l : List (List Bool)) : M := .ml ((l.map pathD).map .fz)
section
variable {ns : List Int} {bx due hp kp pa : PyData} {x7 x8 x12 x13 x14 x15 : Option M} {a b c : Nat}
theorem ins_step {l : List Bool} {s0 s1 : Int} (hl : l.length ≤ 1000) : ∃ (l' : List Bool) (t0 t1 : Int), (nT l' = nT l ∧ nF l' = nF l + 1) ∧
    s_law_f4 (V ns (stM s0 s1) bx due hp kp pa x7 x8 a b c x12 x13 (some (pM l)) x15) = .ok (.nx, V ns (stM t0 t1) bx due hp kp pa x7 x8 a b c x12 x13 (some (pM l')) x15) := by
  have hm : (bd (bd (bd (vO 14) sLen) fun d => bd (sret (.int 1)) fun e => sAdd d e) fun m => sopt (frz m)) (V ns (stM s0 s1) bx due hp kp pa x7 x8 a b c x12 x13 (some (pM l)) x15) = .ok (.int ((l.length : Int) + 1), V ns (stM s0 s1) bx due hp kp pa x7 x8 a b c x12 x13 (some (pM l)) x15) := by
    simp [V, pM, ltD_len]
  obtain ⟨r, t0, t1, hr, e⟩ := draw_call (i := 1) (ev := V ns (stM s0 s1) bx due hp kp pa x7 x8 a b c x12 x13 (some (pM l)) x15) (s0 := s0) (s1 := s1) rfl hm ⟨by omega, by omega⟩
  have cnt : ∀ x : Bool, (l.take r.toNat ++ false :: l.drop r.toNat).count x = l.count x + (if x = false then 1 else 0) := by
    intro x
    have := congrArg (List.count x) (List.take_append_drop r.toNat l)
    rw [List.count_append] at this
    rw [List.count_append, List.count_cons]
    cases x <;> simp at this ⊢ <;> omega
  refine ⟨l.take r.toNat ++ false :: l.drop r.toNat, t0, t1, ⟨by unfold nT; rw [cnt]; simp, by unfold nF; rw [cnt]; simp⟩, ?_⟩
  unfold s_law_f4 sIns
  rw [e_drop]
  have S : (bd (sMl 14) fun _ => bd (bd (sCall F__law_draw (sArgS 1 (sArgV (bd (bd (bd (vO 14) sLen) fun d => bd (sret (.int 1)) fun e => sAdd d e) fun m => sopt (frz m)) (sret [])))) fun m => sopt (frz m)) fun d => bd (bd (sret (.str "up")) fun d => sret (.fz d)) fun m => insK 14 d m) (V ns (stM s0 s1) bx due hp kp pa x7 x8 a b c x12 x13 (some (pM l)) x15) = .ok (.none, V ns (stM t0 t1) bx due hp kp pa x7 x8 a b c x12 x13 (some (pM (l.take r.toNat ++ false :: l.drop r.toNat))) x15) := by
    refine bd_ok (a := ()) (e := V ns (stM s0 s1) bx due hp kp pa x7 x8 a b c x12 x13 (some (pM l)) x15) rfl ?_
    refine bd_ok (a := .int r) (e := V ns (stM t0 t1) bx due hp kp pa x7 x8 a b c x12 x13 (some (pM l)) x15) (bd_ok e rfl) ?_
    refine bd_ok (a := .fz (.str "up")) (e := V ns (stM t0 t1) bx due hp kp pa x7 x8 a b c x12 x13 (some (pM l)) x15) rfl ?_
    unfold insK
    have k : kIns r (.fz (.str "up")) ((ltD l).map .fz) = some ((ltD (l.take r.toNat ++ false :: l.drop r.toNat)).map .fz) := by
      unfold kIns
      rw [if_pos ⟨by rw [List.length_map, ltD_len]; omega, hr.1, by omega⟩]
      unfold ltD
      simp [List.map_take, List.map_drop, lt]
    have sm : sMut 14 (kIns r (.fz (.str "up"))) (V ns (stM t0 t1) bx due hp kp pa x7 x8 a b c x12 x13 (some (pM l)) x15) = some (V ns (stM t0 t1) bx due hp kp pa x7 x8 a b c x12 x13 (some (pM (l.take r.toNat ++ false :: l.drop r.toNat))) x15) := by
      unfold sMut
      have g : (V ns (stM t0 t1) bx due hp kp pa x7 x8 a b c x12 x13 (some (pM l)) x15)[14]? = some (some (.ml ((ltD l).map .fz))) := rfl
      rw [g]
      simp only []
      rw [k]
      rfl
    show oSm PyData.none (sMut 14 (kIns r (.fz (.str "up"))) _) = _
    rw [sm]
    rfl
  rw [S]
theorem ins_loop (n : Nat) {l : List Bool} {s0 s1 : Int} (hl : l.length + n ≤ 1000) (hc : c = n) : ∃ (l' : List Bool) (t0 t1 : Int) (y : Option M), (nT l' = nT l ∧ nF l' = nF l + n) ∧
    forLoop (gN 15) s_law_f4 (rgI 0 n) (V ns (stM s0 s1) bx due hp kp pa x7 x8 a b c x12 x13 (some (pM l)) x15) = .ok (.nx, V ns (stM t0 t1) bx due hp kp pa x7 x8 a b c x12 x13 (some (pM l')) y) := by
  have K := forRange (g := gN 15) (lo := 0) (n := n) (fb := s_law_f4) (fun i ev => ∃ (l' : List Bool) (t0 t1 : Int) (y : Option M), (nT l' = nT l ∧ nF l' = nF l + i) ∧ ev = V ns (stM t0 t1) bx due hp kp pa x7 x8 a b c x12 x13 (some (pM l')) y)
    (ev := V ns (stM s0 s1) bx due hp kp pa x7 x8 a b c x12 x13 (some (pM l)) x15) ⟨l, s0, s1, x15, ⟨rfl, rfl⟩, rfl⟩ fun i ev hi ⟨l1, t0, t1, y, hc, q⟩ => by
      subst q
      have hlen := nTF l1
      have hlen2 := nTF l
      obtain ⟨l2, u0, u1, h2, e⟩ := ins_step (ns := ns) (bx := bx) (due := due) (hp := hp) (kp := kp) (pa := pa) (x7 := x7) (x8 := x8) (x12 := x12) (x13 := x13) (x15 := some (.fz (.int (0 + (i : Int))))) (a := a) (b := b) (c := c) (l := l1) (s0 := t0) (s1 := t1) (by omega)
      exact ⟨_, _, rfl, e, l2, u0, u1, _, ⟨by omega, by omega⟩, rfl⟩
  obtain ⟨ev', e1, l', t0, t1, y, h, q⟩ := K
  subst q
  exact ⟨l', t0, t1, y, h, e1⟩
theorem repl_on (n : Nat) : sMul (.list [.str "on"]) (.int n) = sMul (.list [lt true]) (.int n) := rfl
theorem drw_row {PP : List (List Bool)} {i : Nat} {s0 s1 : Int} {D : List (List Bool)} (hPP : ∀ p ∈ PP, nT p = b ∧ nF p = c) (hi : i < PP.length) (hb : b ≤ 6) (hc : c ≤ 6) (hD : D.length ≤ 100) :
    ∃ (p : List Bool) (t0 t1 : Int) (y14 y15 : Option M), (nT p = b ∧ nF p = c) ∧
    s_law_f5 (V ns (stM s0 s1) bx due hp kp (.tuple (PP.map pathD)) x7 x8 a b c (some (dM D)) (some (.fz (.int i))) x14 x15) = .ok (.nx, V ns (stM t0 t1) bx due hp kp (.tuple (PP.map pathD)) x7 x8 a b c (some (dM (D ++ [p]))) (some (.fz (.int i))) y14 y15) := by
  have c0 : nT (List.replicate b true) = b ∧ nF (List.replicate b true) = 0 := by constructor <;> simp [nT, nF, List.count_replicate]
  obtain ⟨l', u0, u1, y, hl', e⟩ := ins_loop (ns := ns) (bx := bx) (due := due) (hp := hp) (kp := kp) (pa := .tuple (PP.map pathD)) (x7 := x7) (x8 := x8) (x12 := some (dM D)) (x13 := some (.fz (.int i))) (x15 := x15) (a := a) (b := b) (c := c) c (l := List.replicate b true) (s0 := s0) (s1 := s1) (by rw [List.length_replicate]; omega) rfl
  obtain ⟨r, t0, t1, hr, ed⟩ := draw_call (i := 1) (ev := V ns (stM u0 u1) bx due hp kp (.tuple (PP.map pathD)) x7 x8 a b c (some (dM D)) (some (.fz (.int i))) (some (pM l')) y) (s0 := u0) (s1 := u1) (fm := sret (.int 3)) (m := 3) rfl rfl (by omega)
  have hpi : PP[i]? = some PP[i] := List.getElem?_eq_getElem hi
  have hcnt := hPP PP[i] (List.getElem_mem hi)
  refine ⟨if r = 0 then l' else PP[i], t0, t1, some (pM l'), y, by split <;> omega, ?_⟩
  unfold s_law_f5
  refine seq_ok (e := V ns (stM s0 s1) bx due hp kp (.tuple (PP.map pathD)) x7 x8 a b c (some (dM D)) (some (.fz (.int i))) (some (pM (List.replicate b true))) x15) ?_ ?_
  · have hm : sMul (.list [.str "on"]) (.int b) = sret (.ml ((List.replicate b (PyData.str "on")).map .fz)) := mulN (by omega)
    have hq : (List.replicate b (PyData.str "on")) = ltD (List.replicate b true) := by
      unfold ltD
      rw [List.map_replicate]
      rfl
    rw [hq] at hm
    exact set_ok (m := pM (List.replicate b true)) (bd_s (a := .list [.str "on"]) (bd_s (a := .ml [.fz (.str "on")]) rfl rfl) (bd_s (a := .int b) rfl (by rw [hm]; rfl))) (by simp [V]) rfl
  refine seq_ok (for_ok (items := rgI 0 c) (e := V ns (stM s0 s1) bx due hp kp (.tuple (PP.map pathD)) x7 x8 a b c (some (dM D)) (some (.fz (.int i))) (some (pM (List.replicate b true))) x15) ?_ e) ?_
  · exact bd_s (a := .int c) rfl (by rw [rg1n (by omega)]; rfl)
  have F : (sIf (bd (bd (sCall F__law_draw (sArgS 1 (sArgV (sret (.int 3)) (sret [])))) fun m => sopt (frz m)) fun d => bd (sret (.int 0)) fun e => sCmp .Eq d e) (bd (bd (vO 14) sTupOf) fun d => sret (M.fz d)) (bd (bd (vF 6) fun d => bd (vF 13) fun e => TW.sIx d e) fun d => sret (.fz d))) (V ns (stM u0 u1) bx due hp kp (.tuple (PP.map pathD)) x7 x8 a b c (some (dM D)) (some (.fz (.int i))) (some (pM l')) y) = .ok (.fz (pathD (if r = 0 then l' else PP[i])), V ns (stM t0 t1) bx due hp kp (.tuple (PP.map pathD)) x7 x8 a b c (some (dM D)) (some (.fz (.int i))) (some (pM l')) y) := by
    have T : (bd (bd (sCall F__law_draw (sArgS 1 (sArgV (sret (.int 3)) (sret [])))) fun m => sopt (frz m)) fun d => bd (sret (.int 0)) fun e => sCmp .Eq d e) (V ns (stM u0 u1) bx due hp kp (.tuple (PP.map pathD)) x7 x8 a b c (some (dM D)) (some (.fz (.int i))) (some (pM l')) y) = .ok (decide (r = 0), V ns (stM t0 t1) bx due hp kp (.tuple (PP.map pathD)) x7 x8 a b c (some (dM D)) (some (.fz (.int i))) (some (pM l')) y) :=
      bd_ok (a := .int r) (bd_ok ed rfl) (bd_ok (a := .int 0) rfl (by rw [eqInt]; rfl))
    rw [e_if, T]
    simp only []
    by_cases h : r = 0
    · rw [if_pos (decide_eq_true h), if_pos h]
      have fl : flat (pM l') = some (.list (ltD l')) := flat_ml _
      exact bd_s (a := .tuple (ltD l')) (bd_s (a := .list (ltD l')) (by simp [V, fl]) rfl) rfl
    · rw [if_neg (by simp [h]), if_neg h]
      have hat : atI (PP.map pathD) (i : Int) = some (pathD PP[i]) := atI_get (by rw [List.getElem?_map, hpi]; rfl)
      exact bd_s (a := pathD PP[i]) (bd_s (a := .tuple (PP.map pathD)) rfl (bd_s (a := .int i) rfl (by rw [e_ixT, hat]; rfl))) rfl
  rw [e_drop, e_sApp]
  have g : sMl 12 (V ns (stM u0 u1) bx due hp kp (.tuple (PP.map pathD)) x7 x8 a b c (some (dM D)) (some (.fz (.int i))) (some (pM l')) y) = .ok ((), V ns (stM u0 u1) bx due hp kp (.tuple (PP.map pathD)) x7 x8 a b c (some (dM D)) (some (.fz (.int i))) (some (pM l')) y) := rfl
  rw [g]
  simp only []
  rw [F]
  simp only []
  have k : ∀ q, kApp (.fz (pathD q)) ((D.map pathD).map .fz) = some (((D ++ [q]).map pathD).map .fz) := by
    intro q
    unfold kApp
    rw [if_pos (by rw [List.length_map, List.length_map]; omega)]
    simp
  have sm : sMut 12 (kApp (.fz (pathD (if r = 0 then l' else PP[i])))) (V ns (stM t0 t1) bx due hp kp (.tuple (PP.map pathD)) x7 x8 a b c (some (dM D)) (some (.fz (.int i))) (some (pM l')) y) = some (V ns (stM t0 t1) bx due hp kp (.tuple (PP.map pathD)) x7 x8 a b c (some (dM (D ++ [if r = 0 then l' else PP[i]]))) (some (.fz (.int i))) (some (pM l')) y) := by
    unfold sMut
    have g : (V ns (stM t0 t1) bx due hp kp (.tuple (PP.map pathD)) x7 x8 a b c (some (dM D)) (some (.fz (.int i))) (some (pM l')) y)[12]? = some (some (.ml ((D.map pathD).map .fz))) := rfl
    rw [g]
    simp only []
    rw [k]
    rfl
  rw [sm]
  rfl
end
end TW


set_option linter.all false
set_option maxRecDepth 100000
set_option maxHeartbeats 1000000
namespace TW
open PySem L2
theorem or_ok {f g : Sm Bool} {ev e : Ev} {r : Res (Bool × Ev)} (h1 : f ev = .ok (false, e)) (h2 : g e = r) : sOr f g ev = r := by
  rw [e_or, h1]
  exact h2
theorem andT_ok {f g : Sm Bool} {ev e : Ev} {r : Res (Bool × Ev)} (h1 : f ev = .ok (true, e)) (h2 : g e = r) : sAnd f g ev = r := by
  rw [e_and, h1]
  exact h2
theorem andF_ok {f g : Sm Bool} {ev e : Ev} (h1 : f ev = .ok (false, e)) : sAnd f g ev = .ok (false, e) := by
  rw [e_and, h1]
  rfl
theorem ifF_ok {α : Type} {f : Sm Bool} {g h : Sm α} {ev e : Ev} {r : Res (α × Ev)} (h1 : f ev = .ok (false, e)) (h2 : h e = r) : sIf f g h ev = r := by
  rw [e_if, h1]
  exact h2
theorem ifT_ok {α : Type} {f : Sm Bool} {g h : Sm α} {ev e : Ev} {r : Res (α × Ev)} (h1 : f ev = .ok (true, e)) (h2 : g e = r) : sIf f g h ev = r := by
  rw [e_if, h1]
  exact h2
theorem notT_ok {f : Sm Bool} {ev e : Ev} (h1 : f ev = .ok (true, e)) : sNot f ev = .ok (false, e) := by
  rw [e_not, h1]
  rfl
theorem notF_ok {f : Sm Bool} {ev e : Ev} (h1 : f ev = .ok (false, e)) : sNot f ev = .ok (true, e) := by
  rw [e_not, h1]
  rfl
/-- a call with frozen arguments -/
theorem call1 {F : FS} {f1 : Sm PyData} {ev e : Ev} {d1 : PyData} {m : M} {o : List (Option M)} (h1 : f1 ev = .ok (d1, e)) (hF : F [.fz d1] = .ok (m, o)) (ho : o.length = 1) : (sCall F (sArgV f1 (sret []))) ev = .ok (m, e) := by
  simp [h1, slotsOf, resA, putA, hF, ho]
  match o, ho with
  | [x], _ => rfl
theorem call2 {F : FS} {f1 f2 : Sm PyData} {ev e e2 : Ev} {d1 d2 : PyData} {m : M} {o : List (Option M)} (h1 : f1 ev = .ok (d1, e)) (h2 : f2 e = .ok (d2, e2)) (hF : F [.fz d1, .fz d2] = .ok (m, o)) (ho : o.length = 2) : (sCall F (sArgV f1 (sArgV f2 (sret [])))) ev = .ok (m, e2) := by
  simp [h1, h2, slotsOf, resA, putA, hF, ho]
  match o, ho with
  | [x, y], _ => rfl
theorem call3 {F : FS} {f1 f2 f3 : Sm PyData} {ev e e2 e3 : Ev} {d1 d2 d3 : PyData} {m : M} {o : List (Option M)} (h1 : f1 ev = .ok (d1, e)) (h2 : f2 e = .ok (d2, e2)) (h3 : f3 e2 = .ok (d3, e3)) (hF : F [.fz d1, .fz d2, .fz d3] = .ok (m, o)) (ho : o.length = 3) : (sCall F (sArgV f1 (sArgV f2 (sArgV f3 (sret []))))) ev = .ok (m, e3) := by
  simp [h1, h2, h3, slotsOf, resA, putA, hF, ho]
  match o, ho with
  | [x, y, z], _ => rfl
theorem neBool (x y : Bool) : sCmp .NotEq (.bool x) (.bool y) = sret (x != y) := by
  show sopt (if min (PyData.depth (.bool x)) (PyData.depth (.bool y)) ≤ 60 then some (!PyData.eqv (.bool x) (.bool y)) else none) = _
  have : PyData.eqv (.bool x) (.bool y) = (x == y) := by rw [PyData.eqv]
  rw [this]
  rfl
theorem isNone (x : PyData) : sCmp .Is x .none = sret (match x with | .none => true | _ => false) := rfl
theorem isNotNone (x : PyData) : sCmp .IsNot x .none = sret (!(match x with | .none => true | _ => false)) := rfl
theorem pathsD_row {c : Nat} {ps : List (List Bool)} (h : ∀ p ∈ ps, nF p = c) : pathsD c (ps.map rowOf) = .tuple (ps.map pathD) := by
  unfold pathsD
  rw [List.map_map]
  congr 1
  apply List.map_congr_left
  intro p hp
  show pathD (pathF c (rowOf p)) = pathD p
  rw [pathF_row (h p hp)]
theorem small_row {p : List Bool} {b c : Nat} (h : nT p = b ∧ nF p = c) (hb : b ≤ 1000) (hc : c ≤ 1000) : Small (rowOf p) := by
  unfold rowOf
  refine ⟨by rw [List.length_reverse, rowF_len]; omega, fun x hx => ?_⟩
  have := rowF_bd p 0 x (List.mem_reverse.mp hx)
  omega
section
variable {ns : List Int} {due hp kp : PyData} {x7 x8 x12 x13 x14 x15 : Option M} {a b c : Nat}
theorem again_step {PP : List (List Bool)} {s0 s1 : Int} (B : Bx a b c) (hPP : ∀ p ∈ PP, nT p = b ∧ nF p = c) (hl : PP.length = a) :
    ∃ (t0 t1 : Int) (y8 y12 y13 y14 y15 : Option M), s_law_f6 (V ns (stM s0 s1) (bxD a b c) due hp kp (.tuple (PP.map pathD)) x7 x8 a b c x12 x13 x14 x15) = .ok (.nx, V ns (stM t0 t1) (bxD a b c) due hp kp (.tuple (PP.map pathD)) x7 y8 a b c y12 y13 y14 y15) := by
  have B' := B
  obtain ⟨ha, hb, hc⟩ := B'
  have K := forRange (g := gN 13) (lo := 0) (n := a) (fb := s_law_f5) (fun i ev => ∃ (D : List (List Bool)) (t0 t1 : Int) (y13 y14 y15 : Option M), (D.length = i ∧ ∀ p ∈ D, nT p = b ∧ nF p = c) ∧ ev = V ns (stM t0 t1) (bxD a b c) due hp kp (.tuple (PP.map pathD)) x7 x8 a b c (some (dM D)) y13 y14 y15)
    (ev := V ns (stM s0 s1) (bxD a b c) due hp kp (.tuple (PP.map pathD)) x7 x8 a b c (some (.ml [])) x13 x14 x15) ⟨[], s0, s1, x13, x14, x15, ⟨rfl, fun p hp => by cases hp⟩, rfl⟩ fun i ev hi ⟨D, t0, t1, y13, y14, y15, ⟨hD, hD2⟩, q⟩ => by
      subst q
      obtain ⟨p, u0, u1, z14, z15, hpc, e⟩ := drw_row (ns := ns) (bx := bxD a b c) (due := due) (hp := hp) (kp := kp) (x7 := x7) (x8 := x8) (x14 := y14) (x15 := y15) (a := a) (b := b) (c := c) (PP := PP) (i := i) (s0 := t0) (s1 := t1) (D := D) hPP (by omega) (by omega) (by omega) (by omega)
      refine ⟨_, _, rfl, ?_, D ++ [p], u0, u1, some (.fz (.int i)), z14, z15, ⟨by rw [List.length_append, hD]; rfl, fun z hz => ?_⟩, rfl⟩
      · have : (0 : Int) + i = i := by omega
        rw [this]
        exact e
      · rcases List.mem_append.mp hz with h | h
        · exact hD2 z h
        · rw [List.mem_singleton] at h
          rw [h]; exact hpc
  obtain ⟨ev', e1, D, t0, t1, y13, y14, y15, ⟨hD, hD2⟩, q⟩ := K
  subst q
  have h100 : ∀ p ∈ D, p.length ≤ 100 := fun p h => by have := hD2 p h; have := nTF p; omega
  have HO := heap_of_ok B hD hD2
  have ME := meet_ok (isPathsL D) (fun p h => by have := h100 p h; omega) (by omega)
  have sl : ∀ r ∈ D.map rowOf, Small r := fun r hr => by
    obtain ⟨p, hp, rfl⟩ := List.mem_map.mp hr
    exact small_row (hD2 p hp) (by omega) (by omega)
  have LP := law_paths_ok (a := a) (b := b) (c := c) (by omega) (show (D.map rowOf).length ≤ 1000 by rw [List.length_map]; omega) sl
  rw [pathsD_row fun p h => (hD2 p h).2] at LP
  have fl : flat (dM D) = some (.list (D.map pathD)) := flat_ml _
  have fz : frzs ((D.map pathD).map .fz) = some (D.map pathD) := frzs_map _
  refine ⟨t0, t1, some (.fz (if meetF [] 0 D = true then .none else hpL (D.map rowOf))), some (.fz (.list (D.map pathD))), y13, y14, y15, ?_⟩
  unfold s_law_f6
  refine seq_ok (e := V ns (stM s0 s1) (bxD a b c) due hp kp (.tuple (PP.map pathD)) x7 x8 a b c (some (.ml [])) x13 x14 x15) (by simp [V]) ?_
  refine seq_ok (for_ok (items := rgI 0 a) (e := V ns (stM s0 s1) (bxD a b c) due hp kp (.tuple (PP.map pathD)) x7 x8 a b c (some (.ml [])) x13 x14 x15) (bd_s (a := .int a) rfl (by rw [rg1n (by omega)]; rfl)) e1) ?_
  refine seq_ok (e := V ns (stM t0 t1) (bxD a b c) due hp kp (.tuple (PP.map pathD)) x7 (some (.fz (if meetF [] 0 D = true then .none else hpL (D.map rowOf)))) a b c (some (dM D)) y13 y14 y15) ?_ ?_
  · refine set_ok (call2 (d1 := bxD a b c) (d2 := .tuple (D.map pathD)) (e := V ns (stM t0 t1) (bxD a b c) due hp kp (.tuple (PP.map pathD)) x7 x8 a b c (some (dM D)) y13 y14 y15) (e2 := V ns (stM t0 t1) (bxD a b c) due hp kp (.tuple (PP.map pathD)) x7 x8 a b c (some (dM D)) y13 y14 y15) rfl ?_ HO rfl) (by simp [V]) rfl
    exact bd_s (a := .list (D.map pathD)) (by simp [V, fl]) rfl
  have IS : (bd (vF 8) fun d => bd (sret .none) fun e => bd (sCmp .Is d e) fun r => sret (PyData.bool r)) (V ns (stM t0 t1) (bxD a b c) due hp kp (.tuple (PP.map pathD)) x7 (some (.fz (if meetF [] 0 D = true then .none else hpL (D.map rowOf)))) a b c (some (dM D)) y13 y14 y15) = .ok (.bool (meetF [] 0 D), V ns (stM t0 t1) (bxD a b c) due hp kp (.tuple (PP.map pathD)) x7 (some (.fz (if meetF [] 0 D = true then .none else hpL (D.map rowOf)))) a b c (some (dM D)) y13 y14 y15) := by
    cases meetF [] 0 D <;> rfl
  have MC : (bd (sCall F__law_meet (sArgV (bd (vE 12) fun m => sopt (frz m)) (sret []))) fun m => sopt (frz m)) (V ns (stM t0 t1) (bxD a b c) due hp kp (.tuple (PP.map pathD)) x7 (some (.fz (if meetF [] 0 D = true then .none else hpL (D.map rowOf)))) a b c (some (dM D)) y13 y14 y15) = .ok (.bool (meetF [] 0 D), V ns (stM t0 t1) (bxD a b c) due hp kp (.tuple (PP.map pathD)) x7 (some (.fz (if meetF [] 0 D = true then .none else hpL (D.map rowOf)))) a b c (some (.fz (.list (D.map pathD)))) y13 y14 y15) := by
    refine bd_ok (a := .fz (.bool (meetF [] 0 D))) (call1 (d1 := .list (D.map pathD)) ?_ ME rfl) rfl
    refine bd_ok (a := .fz (.list (D.map pathD))) (e := V ns (stM t0 t1) (bxD a b c) due hp kp (.tuple (PP.map pathD)) x7 (some (.fz (if meetF [] 0 D = true then .none else hpL (D.map rowOf)))) a b c (some (.fz (.list (D.map pathD)))) y13 y14 y15) ?_ rfl
    rw [e_vE]
    have g : (V ns (stM t0 t1) (bxD a b c) due hp kp (.tuple (PP.map pathD)) x7 (some (.fz (if meetF [] 0 D = true then .none else hpL (D.map rowOf)))) a b c (some (dM D)) y13 y14 y15)[12]? = some (some (.ml ((D.map pathD).map .fz))) := rfl
    rw [g]
    simp only []
    rw [fz]
    rfl
  refine ifF_ok ?_ rfl
  refine or_ok (e := V ns (stM t0 t1) (bxD a b c) due hp kp (.tuple (PP.map pathD)) x7 (some (.fz (if meetF [] 0 D = true then .none else hpL (D.map rowOf)))) a b c (some (.fz (.list (D.map pathD)))) y13 y14 y15) ?_ ?_
  · refine bd_s IS (bd_ok MC ?_)
    rw [neBool]
    cases meetF [] 0 D <;> rfl
  · cases hm : meetF [] 0 D with
    | true => exact andF_ok rfl
    | false =>
      refine andT_ok (e := V ns (stM t0 t1) (bxD a b c) due hp kp (.tuple (PP.map pathD)) x7 (some (.fz (hpL (D.map rowOf)))) a b c (some (.fz (.list (D.map pathD)))) y13 y14 y15) rfl ?_
      refine bd_s (a := .tuple (D.map pathD)) (bd_s (a := .fz (.tuple (D.map pathD))) (call2 (d1 := bxD a b c) (d2 := hpL (D.map rowOf)) rfl rfl LP rfl) rfl) (bd_s (a := .tuple (D.map pathD)) rfl ?_)
      rw [ne_same (ro_paths h100 (by omega)) (by omega)]
      rfl
end
end TW


set_option linter.all false
set_option maxRecDepth 100000
set_option maxHeartbeats 1000000
namespace TW
open PySem L2
def W (ns : List Int) (st : M) (bx due : PyData) (x4 x5 x6 x7 x8 x9 x10 x11 : Option M) : Ev :=
  [some (.sc ns), some st, some (.fz bx), some (.fz due), x4, x5, x6, x7, x8, x9, x10, x11, none, none, none, none, none]
theorem iT_map (n : Nat) (f : Nat → Int) : iT n f = (tb n f).map .int := by
  unfold iT
  rw [tb_map]
theorem ints_map : ∀ l : List Int, intsOf (l.map .int) = some l
  | [] => rfl
  | i :: l => by
    show (intsOf (l.map .int)).map (i :: ·) = _
    rw [ints_map l]
    rfl
theorem sum_iT (n : Nat) (f : Nat → Int) : sSumT (.tuple (iT n f)) = sret (.int (tb n f).sum) := by
  show bd (sopt (intsOf (iT n f))) _ = _
  rw [iT_map, ints_map]
  rfl
theorem cut_all (xs : List PyData) : cutD xs none (some (xs.length : Int)) = xs := by
  unfold cutD
  have h1 : HT.sIx xs.length 0 none = 0 := by simp [HT.sIx]
  have h2 : HT.sIx xs.length xs.length (some (xs.length : Int)) = xs.length := by
    rw [HT.sIx_nat, Nat.min_self]
  rw [h1, h2]
  simp
theorem or_s {f g : Sm Bool} {ev : Ev} {r : Res (Bool × Ev)} (h1 : f ev = .ok (false, ev)) (h2 : g ev = r) : sOr f g ev = r := or_ok h1 h2
theorem ifF_s {α : Type} {f : Sm Bool} {g h : Sm α} {ev : Ev} {r : Res (α × Ev)} (h1 : f ev = .ok (false, ev)) (h2 : h ev = r) : sIf f g h ev = r := ifF_ok h1 h2
theorem andT_s {f g : Sm Bool} {ev : Ev} {r : Res (Bool × Ev)} (h1 : f ev = .ok (true, ev)) (h2 : g ev = r) : sAnd f g ev = r := andT_ok h1 h2
theorem ne_same' {d : PyData} (h : d.depth ≤ 60) (h2 : d.hasDict = false) : sCmp .NotEq d d = sret false := by
  show sopt (if min d.depth d.depth ≤ 60 then some (!PyData.eqv d d) else none) = _
  rw [if_pos (by omega), eqv_refl d h2]
  rfl
theorem ints_plain : ∀ l : List Int, PyData.depthAll (l.map .int) ≤ 1 ∧ PyData.hasDictAll (l.map .int) = false
  | [] => by simp [PyData.depthAll, PyData.hasDictAll]
  | i :: l => by
    have := ints_plain l
    simp [PyData.depthAll, PyData.hasDictAll, PyData.depth, PyData.hasDict] at this ⊢
    omega
theorem bx_vol {a b c : Nat} (B : Bx a b c) {ev : Ev} (h : ev[2]? = some (some (.fz (bxD a b c)))) : (bd (bd (bd (bd (bd (vF 2) fun d => bd (sret (.int 0)) fun e => TW.sIx d e) fun d => bd (bd (vF 2) fun d => bd (sret (.int 1)) fun e => TW.sIx d e) fun e => sMul d e) fun m => sopt (frz m)) fun d => bd (bd (vF 2) fun d => bd (sret (.int 2)) fun e => TW.sIx d e) fun e => sMul d e) fun m => sopt (frz m)) ev = .ok (.int (a * b * c : Nat), ev) := by
  have m1 : mulOk a b := mulR (by have := B.hb; omega) (by have := B.hb; omega)
  have m2 : mulOk ((a : Int) * b) c := mulR (by have := B.hc; omega) (by have := B.hc; omega)
  have M1 : sMul (.int a) (.int b) = sret (.fz (.int (a * b : Nat))) := by
    rw [e_mul, if_pos m1, Int.natCast_mul]
  have M2 : sMul (.int (a * b : Nat)) (.int c) = sret (.fz (.int (a * b * c : Nat))) := by
    rw [e_mul, if_pos (by rw [Int.natCast_mul]; exact m2), ← Int.natCast_mul]
  have I0 : (bd (vF 2) fun d => bd (sret (.int 0)) fun e => TW.sIx d e) ev = .ok (.int a, ev) := by simp [h]
  have I1 : (bd (vF 2) fun d => bd (sret (.int 1)) fun e => TW.sIx d e) ev = .ok (.int b, ev) := by simp [h]
  have I2 : (bd (vF 2) fun d => bd (sret (.int 2)) fun e => TW.sIx d e) ev = .ok (.int c, ev) := by simp [h]
  exact bd_s (a := .fz (.int (a * b * c : Nat))) (bd_s (a := .int (a * b : Nat)) (bd_s (a := .fz (.int (a * b : Nat))) (bd_s I0 (bd_s I1 (by rw [M1]; rfl))) rfl) (bd_s I2 (by rw [M2]; rfl))) rfl
def sizesT (a b c : Nat) : PyData := .tuple (iT (a * b * c + 1) (szF (plN a b c) one0))
section
variable {ns : List Int} {st : M} {x4 x5 x6 x7 x8 x9 x10 x11 : Option M} {a b c : Nat}
theorem law_vol {n : Int} (B : Bx a b c) (hn : n = pi 0 b c a 1 / pi 1 b c a 1) : ∃ y8, (sIf (bd (bd (bd (bd (bd (bd (vF 2) fun d => bd (sret (.int 0)) fun e => TW.sIx d e) fun d => bd (bd (vF 2) fun d => bd (sret (.int 1)) fun e => TW.sIx d e) fun e => sMul d e) fun m => sopt (frz m)) fun d => bd (bd (vF 2) fun d => bd (sret (.int 2)) fun e => TW.sIx d e) fun e => sMul d e) fun m => sopt (frz m)) fun d => bd (sret (.int 65)) fun e => sCmp .Lt d e)
   (sSeq (sSet 8 (sCall F_sizes (sArgV (vF 2) (sret []))))
    (sSeq (sIf (sOr (sNot (bd (bd (vF 8) fun d => sret (.bool (isi "tuple" d))) sTru)) (sOr (bd (bd (vF 8) sLen) fun d => bd (bd (bd (bd (bd (bd (bd (bd (vF 2) fun d => bd (sret (.int 0)) fun e => TW.sIx d e) fun d => bd (bd (vF 2) fun d => bd (sret (.int 1)) fun e => TW.sIx d e) fun e => sMul d e) fun m => sopt (frz m)) fun d => bd (bd (vF 2) fun d => bd (sret (.int 2)) fun e => TW.sIx d e) fun e => sMul d e) fun m => sopt (frz m)) fun d => bd (sret (.int 1)) fun e => sAdd d e) fun m => sopt (frz m)) fun e => sCmp .NotEq d e) (bd (bd (vF 8) sSumT) fun d => bd (vF 3) fun e => sCmp .NotEq d e)))
     (sRt (bd (sret (.bool false)) fun d => sret (.fz d)))
     sNx)
    (sIf (bd (bd (sCall F__law_times (sArgV (vF 2) (sArgV (bd (bd (vF 8) sLstOf) fun m => sopt (frz m)) (sArgV (sret (.int 2)) (sret []))))) fun m => sopt (frz m)) fun d => bd (bd (bd (bd (sCall F__law_times (sArgV (vF 2) (sArgV (bd (bd (sConsE (bd (sret (.int 1)) fun d => sret (.fz d)) sNilE) fun ms => sret (.ml ms)) fun m => sopt (frz m)) (sArgV (sret (.int 1)) (sret []))))) fun m => sopt (frz m)) fun d => bd (sret none) fun l => bd (bd (bd (bd (sCall F__law_times (sArgV (vF 2) (sArgV (bd (bd (vF 8) sLstOf) fun m => sopt (frz m)) (sArgV (sret (.int 2)) (sret []))))) fun m => sopt (frz m)) sLen) fun d => bd (sInt d) fun i => sret (some i)) fun u => sSl d l u) fun m => sopt (frz m)) fun e => sCmp .NotEq d e)
     (sRt (bd (sret (.bool false)) fun d => sret (.fz d)))
     sNx)))
   sNx) (W ns st (bxD a b c) (.int n) x4 x5 x6 x7 x8 x9 x10 x11) = .ok (.nx, W ns st (bxD a b c) (.int n) x4 x5 x6 x7 y8 x9 x10 x11) := by
  obtain ⟨hv1, hv2⟩ := vol_bd B
  have T1 : (bd (bd (bd (bd (bd (bd (vF 2) fun d => bd (sret (.int 0)) fun e => TW.sIx d e) fun d => bd (bd (vF 2) fun d => bd (sret (.int 1)) fun e => TW.sIx d e) fun e => sMul d e) fun m => sopt (frz m)) fun d => bd (bd (vF 2) fun d => bd (sret (.int 2)) fun e => TW.sIx d e) fun e => sMul d e) fun m => sopt (frz m)) fun d => bd (sret (.int 65)) fun e => sCmp .Lt d e) (W ns st (bxD a b c) (.int n) x4 x5 x6 x7 x8 x9 x10 x11) = .ok (decide (((a * b * c : Nat) : Int) < 65), W ns st (bxD a b c) (.int n) x4 x5 x6 x7 x8 x9 x10 x11) :=
    bd_s (bx_vol B rfl) (bd_s (a := .int 65) rfl rfl)
  by_cases hv : a * b * c < 65
  · refine ⟨some (.fz (sizesT a b c)), ?_⟩
    have hd : decide (((a * b * c : Nat) : Int) < 65) = true := decide_eq_true (by omega)
    rw [hd] at T1
    obtain ⟨S1, S2⟩ := sizes_facts B hv
    have z1 := tiL_eq 1 b c (a * b * c + 1, szF (plN a b c) one0) a
    have z2 := tiL_eq 2 b c (1, one0) a
    have p1 : plL (a * b * c + 1, szF (plN a b c) one0) = tb (a * b * c + 1) (szF (plN a b c) one0) := rfl
    have p2 : plL (1, one0) = [1] := rfl
    rw [p1, S2, ← p2, z2] at z1
    have iq : iT (tiS 2 b c a (1, one0)).1 (tiS 2 b c a (1, one0)).2 = iT (tiS 1 b c a (a * b * c + 1, szF (plN a b c) one0)).1 (tiS 1 b c a (a * b * c + 1, szF (plN a b c) one0)).2 := by
      rw [iT_map, iT_map]
      exact congrArg (List.map PyData.int) z1
    have K1 := times_ok (a := a) (b := b) (c := c) (e := 1) (more := 2) (s := (a * b * c + 1, szF (plN a b c) one0)) B rfl (by show a * b * c + 1 ≤ 10000; omega)
    have K2 := times_ok (a := a) (b := b) (c := c) (e := 2) (more := 1) (s := (1, one0)) B rfl (by show 1 ≤ 10000; omega)
    rw [iq] at K2
    have hR : (PyData.list (iT (tiS 1 b c a (a * b * c + 1, szF (plN a b c) one0)).1 (tiS 1 b c a (a * b * c + 1, szF (plN a b c) one0)).2)).depth ≤ 60 ∧ (PyData.list (iT (tiS 1 b c a (a * b * c + 1, szF (plN a b c) one0)).1 (tiS 1 b c a (a * b * c + 1, szF (plN a b c) one0)).2)).hasDict = false := by
      rw [iT_map]
      have := ints_plain (tb (tiS 1 b c a (a * b * c + 1, szF (plN a b c) one0)).1 (tiS 1 b c a (a * b * c + 1, szF (plN a b c) one0)).2)
      simp only [PyData.depth, PyData.hasDict]
      exact ⟨by omega, this.2⟩
    revert K1 K2 hR
    generalize iT (tiS 1 b c a (a * b * c + 1, szF (plN a b c) one0)).1 (tiS 1 b c a (a * b * c + 1, szF (plN a b c) one0)).2 = R
    intro K1 K2 hR
    have E1 : ∀ e, (W ns st (bxD a b c) (.int n) x4 x5 x6 x7 (some (.fz (sizesT a b c))) x9 x10 x11) = e → (sCall F__law_times (sArgV (vF 2) (sArgV (bd (bd (vF 8) sLstOf) fun m => sopt (frz m)) (sArgV (sret (.int 2)) (sret []))))) e = .ok (.fz (.list R), e) := by
      intro e he
      subst he
      refine call3 (d1 := bxD a b c) (d2 := .list (iT (a * b * c + 1) (szF (plN a b c) one0))) (d3 := .int 2) rfl ?_ rfl K1 rfl
      exact bd_s (a := .ml ((iT (a * b * c + 1) (szF (plN a b c) one0)).map .fz)) rfl (by rw [frz_ml]; rfl)
    have E1 := E1 _ rfl
    refine ifT_ok T1 ?_
    refine seq_ok (e := W ns st (bxD a b c) (.int n) x4 x5 x6 x7 (some (.fz (sizesT a b c))) x9 x10 x11) (set_ok (call1 (d1 := bxD a b c) rfl (sizes_ok B) rfl) (by simp [W]) rfl) ?_
    refine seq_ok (e := W ns st (bxD a b c) (.int n) x4 x5 x6 x7 (some (.fz (sizesT a b c))) x9 x10 x11) ?_ ?_
    · refine ifF_s (or_s (notT_ok (bd_s (a := .bool true) (bd_s (a := sizesT a b c) rfl ?_) rfl)) (or_s (bd_s (a := .int (a * b * c + 1 : Nat)) (bd_s (a := sizesT a b c) rfl ?_) (bd_s (a := .int (a * b * c + 1 : Nat)) (bd_s (a := .fz (.int (a * b * c + 1 : Nat))) (bd_s (bx_vol B rfl) (bd_s (a := .int 1) rfl rfl)) rfl) ?_)) (bd_s (a := .int n) (bd_s (a := sizesT a b c) rfl ?_) (bd_s (a := .int n) rfl ?_)))) rfl
      · rw [show isi "tuple" (sizesT a b c) = true from isi_tup _]
        rfl
      · unfold sizesT
        rw [e_lenT, iT_len]
        rfl
      · rw [neInt]
        simp
      · unfold sizesT
        rw [sum_iT, S1]
        unfold numB
        rw [← hn]
        rfl
      · rw [neInt]
        simp
    · refine ifF_s (bd_s (a := .list R) (bd_s E1 rfl) (bd_s (a := .list R) (bd_s (a := .ml (R.map .fz)) (bd_s (a := .list R) (bd_s (a := .fz (.list R)) (call3 (d1 := bxD a b c) (d2 := .list (iT 1 one0)) (d3 := .int 1) rfl ?_ rfl K2 rfl) rfl) (bd_s (a := none) rfl (bd_s (a := some (R.length : Int)) (bd_s (a := .int R.length) (bd_s (a := .list R) (bd_s E1 rfl) rfl) rfl) ?_))) (by rw [frz_ml]; rfl)) ?_)) rfl
      · exact bd_s (a := .ml [.fz (.int 1)]) rfl rfl
      · show sret (M.ml ((cutD R none (some (R.length : Int))).map .fz)) _ = _
        rw [cut_all]
        rfl
      · rw [ne_same' hR.1 hR.2]
        rfl
  · refine ⟨x8, ?_⟩
    have hd : decide (((a * b * c : Nat) : Int) < 65) = false := decide_eq_false (by omega)
    rw [hd] at T1
    exact ifF_ok T1 rfl
end
end TW


set_option linter.all false
set_option maxRecDepth 100000
set_option maxHeartbeats 2000000
namespace TW
open PySem L2
theorem ro_heap {a b c : Nat} {g : Nat → Nat → Int} (B : Bx a b c) (hg : Heap a b c g) : RO' 1518 4 (hpT a b g) :=
  ro_hp B.ha.2 B.hb.2 fun i j hi hj => by
    have := hg.lo i j hi hj
    have := hg.hi i j hi hj
    have := B.hc
    omega
theorem ro_mir {a b c : Nat} {g : Nat → Nat → Int} (B : Bx a b c) (hg : Heap a b c g) : RO' 1518 4 (hpT b a fun j i => g i j) :=
  ro_hp B.hb.2 B.ha.2 fun i j hi hj => by
    have := hg.lo j i hj hi
    have := hg.hi j i hj hi
    have := B.hc
    omega
theorem ro_oth {a b c : Nat} {g : Nat → Nat → Int} (B : Bx a b c) (hg : Heap a b c g) : RO' 1518 4 (hpT a b (othG a b c g)) :=
  ro_hp B.ha.2 B.hb.2 fun i j hi hj => by
    have := hg.lo (a - 1 - i) (b - 1 - j) (by omega) (by omega)
    have := hg.hi (a - 1 - i) (b - 1 - j) (by omega) (by omega)
    have := B.hc
    unfold othG
    omega
theorem ro_rol {a b c : Nat} {g : Nat → Nat → Int} (B : Bx a b c) (hg : Heap a b c g) : RO' 1518 4 (hpT b c (rolG a g)) :=
  ro_hp B.hb.2 B.hc.2 fun i j hi hj => by
    have := List.length_filter_le (fun k => decide ((j : Int) < g k i)) (List.range a)
    rw [List.length_range] at this
    have := B.ha
    unfold rolG
    omega
theorem Bx.rot1 {a b c : Nat} (B : Bx a b c) : Bx b a c := ⟨B.hb, B.ha, B.hc⟩
theorem Bx.rot2 {a b c : Nat} (B : Bx a b c) : Bx b c a := ⟨B.hb, B.hc, B.ha⟩
theorem bx_i0 {a b c : Nat} {ev : Ev} (h : ev[2]? = some (some (.fz (bxD a b c)))) : (bd (vF 2) fun d => bd (sret (.int 0)) fun e => TW.sIx d e) ev = .ok (.int a, ev) := by simp [h]
theorem bx_i1 {a b c : Nat} {ev : Ev} (h : ev[2]? = some (some (.fz (bxD a b c)))) : (bd (vF 2) fun d => bd (sret (.int 1)) fun e => TW.sIx d e) ev = .ok (.int b, ev) := by simp [h]
theorem repr_ne {d : PyData} {f g : Sm PyData} {ev : Ev} (hs : sRepr d = sret (.str d.shown)) (hf : f ev = .ok (d, ev)) (hg : g ev = .ok (d, ev)) : (bd (bd f sRepr) fun d => bd (bd g sRepr) fun e => sCmp .NotEq d e) ev = .ok (false, ev) :=
  bd_s (a := .str d.shown) (bd_s hf (by rw [hs]; rfl)) (bd_s (a := .str d.shown) (bd_s hg (by rw [hs]; rfl)) (by rw [neStr]; rfl))
theorem repr_ne0 {d : PyData} {f : Sm PyData} {h : Sm PyData} {ev : Ev} (hs : sRepr d = sret (.str d.shown)) (hf : f ev = .ok (d, ev)) (hg : h ev = .ok (.str d.shown, ev)) : (bd (bd f sRepr) fun d => bd h fun e => sCmp .NotEq d e) ev = .ok (false, ev) :=
  bd_s (a := .str d.shown) (bd_s hf (by rw [hs]; rfl)) (bd_s (a := .str d.shown) hg (by rw [neStr]; rfl))
theorem lawc3 {v : Ev} {a b c : Nat} (h2 : v[2]? = some (some (.fz (bxD a b c)))) (hl : v.length = 17) (hn : v[16]? = some none) : s_law_c3 v = .ok (.ml (([a, b, c].map fun n : Nat => PyData.bool (decide ((n : Int) % 2 = 0))).map .fz), v) := by
  have hs : v.set 16 none = v := by
    apply List.ext_getElem?
    intro i
    by_cases h : i = 16
    · subst h
      rw [List.getElem?_set_self (by omega), hn]
    · rw [List.getElem?_set_ne (fun e => h e.symm)]
  have w : wipeE v [16] = v := hs
  have r : restE v v [16] = v := by
    show v.set 16 ((v[16]?).getD none) = v
    rw [hn]
    exact hs
  refine lg_ls (F := fun n : Nat => PyData.int n) (items := [a, b, c]) (ev1 := v) _ ?_ ?_ (by simp) (fun n _ => ⟨v.set 16 (some (.fz (.int n))), ?_, ?_, ?_⟩) (by rw [w]; exact r)
  · exact bd_s (a := bxD a b c) (by rw [e_vF, h2]) (by rw [it_bx]; rfl)
  · simp [hn, notMl]
  · rw [w]
    exact if_pos (by omega)
  · have g : (v.set 16 (some (.fz (.int n))))[16]? = some (some (.fz (.int n))) := List.getElem?_set_self (by omega)
    unfold s_law_e2
    simp [g, eqInt]
  · rw [w]
    show (v.set 16 (some (.fz (.int n)))).set 16 none = v
    rw [List.set_set]
    exact hs
theorem drawn_call {ev : Ev} {s0 s1 : Int} {a b c : Nat} (B : Bx a b c) (h : ev[1]? = some (some (stM s0 s1))) (h2 : ev[2]? = some (some (.fz (bxD a b c)))) : ∃ g t0 t1, Heap a b c g ∧ (sCall F__law_drawn (sArgS 1 (sArgV (vF 2) (sret [])))) ev = .ok (.fz (hpT a b g), ev.set 1 (some (stM t0 t1))) := by
  obtain ⟨g, t0, t1, hg, e⟩ := drawn_ok B s0 s1
  refine ⟨g, t0, t1, hg, ?_⟩
  have q : stM s0 s1 = .ml [.fz (.int s0), .fz (.int s1)] := rfl
  rw [q] at e h
  simp [h, h2, slotsOf, resA, putA, e]
end TW


set_option linter.all false
set_option maxRecDepth 100000
set_option maxHeartbeats 2000000
namespace TW
open PySem L2
def boxes6 : List PyData := [bxD 2 2 2, bxD 3 2 2, bxD 1 3 4, bxD 3 3 2, bxD 2 2 4, bxD 2 4 2]
theorem small_at {r : Int} (h : 0 ≤ r ∧ r < 6) : ∃ d o, atI boxes6 r = some d ∧ F__law_small [.fz d] = .ok (.fz (.bool true), o) ∧ o.length = 1 := by
  have hr : r = 0 ∨ r = 1 ∨ r = 2 ∨ r = 3 ∨ r = 4 ∨ r = 5 := by omega
  rcases hr with rfl | rfl | rfl | rfl | rfl | rfl
  · obtain ⟨o, e1, e2⟩ := okTrue_of (sm1)
    exact ⟨_, o, rfl, e1, e2⟩
  · obtain ⟨o, e1, e2⟩ := okTrue_of (sm2)
    exact ⟨_, o, rfl, e1, e2⟩
  · obtain ⟨o, e1, e2⟩ := okTrue_of (sm3)
    exact ⟨_, o, rfl, e1, e2⟩
  · obtain ⟨o, e1, e2⟩ := okTrue_of (sm4)
    exact ⟨_, o, rfl, e1, e2⟩
  · obtain ⟨o, e1, e2⟩ := okTrue_of (sm5)
    exact ⟨_, o, rfl, e1, e2⟩
  · obtain ⟨o, e1, e2⟩ := okTrue_of (sm6)
    exact ⟨_, o, rfl, e1, e2⟩
theorem plain_law (ns : List Int) : ∃ ev, s_law (some (.sc ns) :: List.replicate 16 none) = .ok (.rt (.fz (.bool true)), ev) := by
  obtain ⟨s0, s1, eS⟩ := stream_ok ns
  obtain ⟨a, b, c, t0, t1, B, eB⟩ := box_ok ns s0 s1
  have B' := B
  obtain ⟨ha, hb, hc⟩ := B'
  obtain ⟨n, hn1, hn2, eC, eN⟩ := count_eq B
  obtain ⟨y8, eV⟩ := law_vol (ns := ns) (st := stM t0 t1) (x4 := none) (x5 := none) (x6 := none) (x7 := none) (x8 := none) (x9 := none) (x10 := none) (x11 := none) B hn2
  obtain ⟨r, u0, u1, hr, eD⟩ := draw_call (i := 1) (ev := W ns (stM t0 t1) (bxD a b c) (.int n) none none none none y8 none none none) (s0 := t0) (s1 := t1) (fm := sret (.int 6)) (m := 6) rfl rfl (by omega)
  obtain ⟨sd, so, eA, eM, eMl⟩ := small_at hr
  obtain ⟨g, w0, w1, hg, eH⟩ := drawn_call (ev := W ns (stM u0 u1) (bxD a b c) (.int n) none none none none y8 none none none) (s0 := u0) (s1 := u1) B rfl rfl
  have rnn := repr_int hn1
  have rhp := repr_ro (ro_heap B hg) (by omega) (by omega)
  have rmi := repr_ro (ro_pair ((ro_bx B.rot1).mono (by omega : (126 : Nat) ≤ 1518) (by omega : (2 : Nat) ≤ 4)) (ro_mir B hg)) (by omega) (by omega)
  have rot := repr_ro (ro_pair ((ro_bx B).mono (by omega : (126 : Nat) ≤ 1518) (by omega : (2 : Nat) ≤ 4)) (ro_oth B hg)) (by omega) (by omega)
  have rro := repr_ro (ro_pair ((ro_bx B.rot2).mono (by omega : (126 : Nat) ≤ 1518) (by omega : (2 : Nat) ≤ 4)) (ro_rol B hg)) (by omega) (by omega)
  -- the paths
  have LP := law_paths_ok (a := a) (b := b) (c := c) (l := rowsH a b g) (by omega) (by unfold rowsH; rw [tb_len]; omega) fun r hr => heap_small B hg hr
  have PO := paths_of_ok B hg
  have cnt : ∀ p ∈ pathsF c (rowsH a b g), nT p = b ∧ nF p = c := by
    intro p hp
    obtain ⟨r, hr, rfl⟩ := List.mem_map.mp hp
    obtain ⟨i, hi, rfl⟩ := tb_mem hr
    exact path_counts hg hi
  have len : (pathsF c (rowsH a b g)).length = a := by unfold pathsF rowsH; rw [List.length_map, tb_len]
  have h100 : ∀ p ∈ pathsF c (rowsH a b g), p.length ≤ 100 := fun p h => by have := cnt p h; have := nTF p; omega
  have pD : pathsD c (rowsH a b g) = .tuple ((pathsF c (rowsH a b g)).map pathD) := by
    unfold pathsD pathsF
    rw [List.map_map]
    rfl
  have HO := heap_of_ok B len cnt
  have NM := heap_no_meet hg
  have ME := meet_ok (isPathsT (pathsF c (rowsH a b g))) (fun p h => by have := h100 p h; omega) (by omega)
  have rows : (pathsF c (rowsH a b g)).map rowOf = rowsH a b g := by
    unfold pathsF rowsH
    rw [tb_map, tb_map]
    exact tb_congr fun i hi => heap_row_path hg hi
  rw [NM] at HO ME
  rw [if_neg (by decide), rows] at HO
  have hL : hpT a b g = hpL (rowsH a b g) := hpT_L ..
  rw [pD] at LP
  have PO' : F_paths_of [.fz (bxD a b c), .fz (hpT a b g)] = .ok (.fz (.tuple ((pathsF c (rowsH a b g)).map pathD)), [some (.fz (bxD a b c)), some (.fz (hpT a b g))]) := by
    rw [← pD]
    exact PO
  rw [← hL] at LP HO
  have rpa := repr_ro (ro_paths h100 (by omega)) (by omega) (by omega)
  have NX : ∀ (x7 x8 x12 x13 x14 x15 : Option M) (s0 s1 : Int), ∃ ev', forLoop (gN 7) s_law_f6 (rgI 0 3) (V ns (stM s0 s1) (bxD a b c) (.int n) (hpT a b g) (.str (hpT a b g).shown) (.tuple ((pathsF c (rowsH a b g)).map pathD)) x7 x8 a b c x12 x13 x14 x15) = .ok (.nx, ev') ∧
      ∃ (s0 s1 : Int) (x7 x8 x12 x13 x14 x15 : Option M), ev' = V ns (stM s0 s1) (bxD a b c) (.int n) (hpT a b g) (.str (hpT a b g).shown) (.tuple ((pathsF c (rowsH a b g)).map pathD)) x7 x8 a b c x12 x13 x14 x15 := by
    intro x7 x8 x12 x13 x14 x15 s0 s1
    exact forRange (g := gN 7) (lo := 0) (n := 3) (fb := s_law_f6) (fun i ev => ∃ (s0 s1 : Int) (x7 x8 x12 x13 x14 x15 : Option M), ev = V ns (stM s0 s1) (bxD a b c) (.int n) (hpT a b g) (.str (hpT a b g).shown) (.tuple ((pathsF c (rowsH a b g)).map pathD)) x7 x8 a b c x12 x13 x14 x15)
      ⟨s0, s1, x7, x8, x12, x13, x14, x15, rfl⟩ fun i ev hi ⟨s0, s1, x7, x8, x12, x13, x14, x15, q⟩ => by
        subst q
        obtain ⟨t0, t1, y8, y12, y13, y14, y15, e⟩ := again_step (ns := ns) (due := .int n) (hp := hpT a b g) (kp := .str (hpT a b g).shown) (x7 := some (.fz (.int (0 + (i : Int))))) (x8 := x8) (x12 := x12) (x13 := x13) (x14 := x14) (x15 := x15) (s0 := s0) (s1 := s1) B cnt len
        exact ⟨_, _, rfl, e, t0, t1, some (.fz (.int (0 + (i : Int)))), y8, y12, y13, y14, y15, rfl⟩
  obtain ⟨ev', eF, z0, z1, z7, z8, z12, z13, z14, z15, q⟩ := NX none y8 none none none none w0 w1
  subst q
  refine ⟨V ns (stM z0 z1) (bxD a b c) (.int n) (hpT a b g) (.str (hpT a b g).shown) (.tuple ((pathsF c (rowsH a b g)).map pathD)) z7 z8 a b c z12 z13 z14 z15, ?_⟩
  show s_law [some (.sc ns), none, none, none, none, none, none, none, none, none, none, none, none, none, none, none, none] = _
  unfold s_law
  -- stream, box, due
  refine seq_ok (e := [some (.sc ns), some (stM s0 s1), none, none, none, none, none, none, none, none, none, none, none, none, none, none, none]) (by simp [slotsOf, resA, putA, eS]) ?_
  refine seq_ok (e := [some (.sc ns), some (stM t0 t1), some (.fz (bxD a b c)), none, none, none, none, none, none, none, none, none, none, none, none, none, none]) (set_ok (m := .fz (bxD a b c)) (bd_ok (a := bxD a b c) (bd_ok (a := .list [.int a, .int b, .int c]) (bd_ok eB (by rw [frz_ml]; rfl)) rfl) rfl) (by simp) rfl) ?_
  refine seq_ok (e := W ns (stM t0 t1) (bxD a b c) (.int n) none none none none none none none none) (set_ok (call1 (d1 := bxD a b c) rfl eN rfl) (by simp) rfl) ?_
  refine seq_ok (e := W ns (stM t0 t1) (bxD a b c) (.int n) none none none none none none none none) (ifF_s (repr_ne rnn (bd_s (a := .fz (.int n)) (call1 (d1 := bxD a b c) rfl eC rfl) rfl) rfl) rfl) ?_
  refine seq_ok (e := W ns (stM t0 t1) (bxD a b c) (.int n) none none none none y8 none none none) eV ?_
  -- mirror
  refine seq_ok (e := W ns (stM t0 t1) (bxD a b c) (.int n) none none none none y8 none none none) ?_ ?_
  · refine ifF_s ?_ rfl
    by_cases h : a = b
    · obtain ⟨i, o, o', hi, e1, l1, e2, l2⟩ := alike_mirror B h
      refine andT_s (bd_s (bx_i0 rfl) (bd_s (bx_i1 rfl) ?_)) (repr_ne (repr_int hi) (bd_s (a := .fz (.int i)) (call2 (d1 := bxD a b c) (d2 := .str "mirror") rfl rfl e1 l1) rfl) (bd_s (a := .fz (.int i)) (call2 (d1 := bxD a b c) (d2 := .str "mirror") rfl rfl e2 l2) rfl))
      rw [eqInt, decide_eq_true (by omega)]
      rfl
    · refine andF_ok (bd_s (bx_i0 rfl) (bd_s (bx_i1 rfl) ?_))
      rw [eqInt, decide_eq_false (by omega)]
      rfl
  -- side
  refine seq_ok (e := W ns (stM t0 t1) (bxD a b c) (.int n) none none none none y8 none none none) ?_ ?_
  · refine ifF_s ?_ rfl
    have C3 := lawc3 (v := W ns (stM t0 t1) (bxD a b c) (.int n) none none none none y8 none none none) (a := a) (b := b) (c := c) rfl rfl rfl
    have T := sAll_map (fun n : Nat => decide ((n : Int) % 2 = 0)) [a, b, c]
    by_cases h : a % 2 = 0 ∧ b % 2 = 0 ∧ c % 2 = 0
    · obtain ⟨i, o, o', hi, e1, l1, e2, l2⟩ := alike_side B h
      have q : [a, b, c].all (fun n : Nat => decide ((n : Int) % 2 = 0)) = true := by
        simp
        omega
      rw [q] at T
      exact andT_s (bd_s (a := .bool true) (bd_s (a := .list ([a, b, c].map fun n : Nat => PyData.bool (decide ((n : Int) % 2 = 0)))) (bd_s C3 (by rw [frz_ml]; rfl)) (by rw [T]; rfl)) rfl) (repr_ne (repr_int hi) (bd_s (a := .fz (.int i)) (call2 (d1 := bxD a b c) (d2 := .str "side") rfl rfl e1 l1) rfl) (bd_s (a := .fz (.int i)) (call2 (d1 := bxD a b c) (d2 := .str "side") rfl rfl e2 l2) rfl))
    · have q : [a, b, c].all (fun n : Nat => decide ((n : Int) % 2 = 0)) = false := by
        rw [← Bool.not_eq_true]
        simp
        omega
      rw [q] at T
      exact andF_ok (bd_s (a := .bool false) (bd_s (a := .list ([a, b, c].map fun n : Nat => PyData.bool (decide ((n : Int) % 2 = 0)))) (bd_s C3 (by rw [frz_ml]; rfl)) (by rw [T]; rfl)) rfl)
  -- small
  refine seq_ok (e := W ns (stM u0 u1) (bxD a b c) (.int n) none none none none y8 none none none) ?_ ?_
  · refine ifF_ok (notT_ok (bd_ok (a := .bool true) (bd_ok (a := .fz (.bool true)) (call1 (d1 := sd) ?_ eM eMl) rfl) rfl)) rfl
    refine bd_s (a := .list boxes6) ?_ (bd_ok (a := .int r) (bd_ok eD rfl) ?_)
    · exact bd_s (a := .ml (boxes6.map .fz)) rfl rfl
    · rw [e_ixL, eA]
      rfl
  refine seq_ok (e := W ns (stM w0 w1) (bxD a b c) (.int n) (some (.fz (hpT a b g))) none none none y8 none none none) (set_ok eH (by simp [W]) rfl) ?_
  refine seq_ok (e := W ns (stM w0 w1) (bxD a b c) (.int n) (some (.fz (hpT a b g))) none none none y8 (some (.fz (.int a))) (some (.fz (.int b))) (some (.fz (.int c)))) (by simp [W, bxD]) ?_
  refine seq_ok (e := W ns (stM w0 w1) (bxD a b c) (.int n) (some (.fz (hpT a b g))) (some (.fz (.str (hpT a b g).shown))) none none y8 (some (.fz (.int a))) (some (.fz (.int b))) (some (.fz (.int c)))) (set_ok (m := .fz (.str (hpT a b g).shown)) (bd_s (a := .str (hpT a b g).shown) (bd_s (a := hpT a b g) rfl (by rw [rhp]; rfl)) rfl) (by simp [W]) rfl) ?_
  refine seq_ok (e := W ns (stM w0 w1) (bxD a b c) (.int n) (some (.fz (hpT a b g))) (some (.fz (.str (hpT a b g).shown))) none none y8 (some (.fz (.int a))) (some (.fz (.int b))) (some (.fz (.int c)))) ?_ ?_
  · refine ifF_s (or_s (bd_s (a := .none) (bd_s (a := .fz .none) (call2 (d1 := bxD a b c) (d2 := hpT a b g) rfl rfl (check_heap_ok B hg) rfl) rfl) (bd_s (a := .none) rfl rfl)) ?_) rfl
    exact repr_ne rmi (bd_s (a := .fz (.tuple [bxD b a c, hpT b a fun j i => g i j])) (call2 (d1 := bxD a b c) (d2 := hpT a b g) rfl rfl (mirror_ok B hg) rfl) rfl)
      (bd_s (a := [bxD b a c, hpT b a fun j i => g i j]) (by
        rw [e_consF]
        have e1 : (bd (sConsF (vF 10) (sConsF (vF 9) (sConsF (vF 11) sNilF))) fun ds => sret (PyData.tuple ds)) (W ns (stM w0 w1) (bxD a b c) (.int n) (some (.fz (hpT a b g))) (some (.fz (.str (hpT a b g).shown))) none none y8 (some (.fz (.int a))) (some (.fz (.int b))) (some (.fz (.int c)))) = .ok (bxD b a c, W ns (stM w0 w1) (bxD a b c) (.int n) (some (.fz (hpT a b g))) (some (.fz (.str (hpT a b g).shown))) none none y8 (some (.fz (.int a))) (some (.fz (.int b))) (some (.fz (.int c)))) := rfl
        have e2 : (bd (sCall F__law_mirror (sArgV (vF 4) (sret []))) fun m => sopt (frz m)) (W ns (stM w0 w1) (bxD a b c) (.int n) (some (.fz (hpT a b g))) (some (.fz (.str (hpT a b g).shown))) none none y8 (some (.fz (.int a))) (some (.fz (.int b))) (some (.fz (.int c)))) = .ok (hpT b a (fun j i => g i j), W ns (stM w0 w1) (bxD a b c) (.int n) (some (.fz (hpT a b g))) (some (.fz (.str (hpT a b g).shown))) none none y8 (some (.fz (.int a))) (some (.fz (.int b))) (some (.fz (.int c)))) :=
          bd_s (a := .fz (hpT b a fun j i => g i j)) (call1 (d1 := hpT a b g) rfl (law_mirror_ok B) rfl) rfl
        rw [e1]
        simp only []
        rw [e_consF, e2]
        rfl) rfl)
  refine seq_ok (e := W ns (stM w0 w1) (bxD a b c) (.int n) (some (.fz (hpT a b g))) (some (.fz (.str (hpT a b g).shown))) none none y8 (some (.fz (.int a))) (some (.fz (.int b))) (some (.fz (.int c)))) ?_ ?_
  · refine ifF_s ?_ rfl
    exact repr_ne rot (bd_s (a := .fz (.tuple [bxD a b c, hpT a b (othG a b c g)])) (call2 (d1 := bxD a b c) (d2 := hpT a b g) rfl rfl (other_ok B hg) rfl) rfl)
      (bd_s (a := [bxD a b c, hpT a b (othG a b c g)]) (by
        rw [e_consF]
        have e1 : vF 2 (W ns (stM w0 w1) (bxD a b c) (.int n) (some (.fz (hpT a b g))) (some (.fz (.str (hpT a b g).shown))) none none y8 (some (.fz (.int a))) (some (.fz (.int b))) (some (.fz (.int c)))) = .ok (bxD a b c, W ns (stM w0 w1) (bxD a b c) (.int n) (some (.fz (hpT a b g))) (some (.fz (.str (hpT a b g).shown))) none none y8 (some (.fz (.int a))) (some (.fz (.int b))) (some (.fz (.int c)))) := rfl
        have e2 : (bd (sCall F__law_other (sArgV (vF 2) (sArgV (vF 4) (sret [])))) fun m => sopt (frz m)) (W ns (stM w0 w1) (bxD a b c) (.int n) (some (.fz (hpT a b g))) (some (.fz (.str (hpT a b g).shown))) none none y8 (some (.fz (.int a))) (some (.fz (.int b))) (some (.fz (.int c)))) = .ok (hpT a b (othG a b c g), W ns (stM w0 w1) (bxD a b c) (.int n) (some (.fz (hpT a b g))) (some (.fz (.str (hpT a b g).shown))) none none y8 (some (.fz (.int a))) (some (.fz (.int b))) (some (.fz (.int c)))) :=
          bd_s (a := .fz (hpT a b (othG a b c g))) (call2 (d1 := bxD a b c) (d2 := hpT a b g) rfl rfl (law_other_ok B) rfl) rfl
        rw [e1]
        simp only []
        rw [e_consF, e2]
        rfl) rfl)
  refine seq_ok (e := W ns (stM w0 w1) (bxD a b c) (.int n) (some (.fz (hpT a b g))) (some (.fz (.str (hpT a b g).shown))) none none y8 (some (.fz (.int a))) (some (.fz (.int b))) (some (.fz (.int c)))) ?_ ?_
  · refine ifF_s ?_ rfl
    exact repr_ne rro (bd_s (a := .fz (.tuple [bxD b c a, hpT b c (rolG a g)])) (call2 (d1 := bxD a b c) (d2 := hpT a b g) rfl rfl (rolled_ok B hg) rfl) rfl)
      (bd_s (a := [bxD b c a, hpT b c (rolG a g)]) (by
        rw [e_consF]
        have e1 : (bd (sConsF (vF 10) (sConsF (vF 11) (sConsF (vF 9) sNilF))) fun ds => sret (PyData.tuple ds)) (W ns (stM w0 w1) (bxD a b c) (.int n) (some (.fz (hpT a b g))) (some (.fz (.str (hpT a b g).shown))) none none y8 (some (.fz (.int a))) (some (.fz (.int b))) (some (.fz (.int c)))) = .ok (bxD b c a, W ns (stM w0 w1) (bxD a b c) (.int n) (some (.fz (hpT a b g))) (some (.fz (.str (hpT a b g).shown))) none none y8 (some (.fz (.int a))) (some (.fz (.int b))) (some (.fz (.int c)))) := rfl
        have e2 : (bd (sCall F__law_rolled (sArgV (vF 2) (sArgV (vF 4) (sret [])))) fun m => sopt (frz m)) (W ns (stM w0 w1) (bxD a b c) (.int n) (some (.fz (hpT a b g))) (some (.fz (.str (hpT a b g).shown))) none none y8 (some (.fz (.int a))) (some (.fz (.int b))) (some (.fz (.int c)))) = .ok (hpT b c (rolG a g), W ns (stM w0 w1) (bxD a b c) (.int n) (some (.fz (hpT a b g))) (some (.fz (.str (hpT a b g).shown))) none none y8 (some (.fz (.int a))) (some (.fz (.int b))) (some (.fz (.int c)))) :=
          bd_s (a := .fz (hpT b c (rolG a g))) (call2 (d1 := bxD a b c) (d2 := hpT a b g) rfl rfl (law_rolled_ok B) rfl) rfl
        rw [e1]
        simp only []
        rw [e_consF, e2]
        rfl) rfl)
  -- paths
  refine seq_ok (e := V ns (stM w0 w1) (bxD a b c) (.int n) (hpT a b g) (.str (hpT a b g).shown) (.tuple ((pathsF c (rowsH a b g)).map pathD)) none y8 a b c none none none none) (set_ok (call2 (d1 := bxD a b c) (d2 := hpT a b g) rfl rfl LP rfl) (by simp [W]) rfl) ?_
  refine seq_ok (e := V ns (stM w0 w1) (bxD a b c) (.int n) (hpT a b g) (.str (hpT a b g).shown) (.tuple ((pathsF c (rowsH a b g)).map pathD)) none y8 a b c none none none none) ?_ ?_
  · refine ifF_s (or_s (repr_ne rpa (bd_s (a := .fz (.tuple ((pathsF c (rowsH a b g)).map pathD))) (call2 (d1 := bxD a b c) (d2 := hpT a b g) rfl rfl PO' rfl) rfl) rfl) (or_s (bd_s (a := .bool false) (bd_s (a := .fz (.bool false)) (call1 (d1 := .tuple ((pathsF c (rowsH a b g)).map pathD)) rfl ME rfl) rfl) rfl) ?_)) rfl
    exact repr_ne rhp (bd_s (a := .fz (hpT a b g)) (call2 (d1 := bxD a b c) (d2 := .tuple ((pathsF c (rowsH a b g)).map pathD)) rfl rfl HO rfl) rfl) rfl
  refine seq_ok (for_ok (items := rgI 0 3) (e := V ns (stM w0 w1) (bxD a b c) (.int n) (hpT a b g) (.str (hpT a b g).shown) (.tuple ((pathsF c (rowsH a b g)).map pathD)) none y8 a b c none none none none) (bd_s (a := .int 3) rfl (by
    have := rg1n (n := 3) (by omega)
    show sRg1 (.int ((3 : Nat) : Int)) _ = _
    rw [this]
    rfl)) eF) ?_
  have R : (bd (bd (bd (vF 4) sRepr) fun d => bd (vF 5) fun e => bd (sCmp .Eq d e) fun r => sret (PyData.bool r)) fun d => sret (M.fz d)) (V ns (stM z0 z1) (bxD a b c) (.int n) (hpT a b g) (.str (hpT a b g).shown) (.tuple ((pathsF c (rowsH a b g)).map pathD)) z7 z8 a b c z12 z13 z14 z15) = .ok (.fz (.bool true), V ns (stM z0 z1) (bxD a b c) (.int n) (hpT a b g) (.str (hpT a b g).shown) (.tuple ((pathsF c (rowsH a b g)).map pathD)) z7 z8 a b c z12 z13 z14 z15) := by
    refine bd_s (a := .bool true) (bd_s (a := .str (hpT a b g).shown) (bd_s (a := hpT a b g) rfl (by rw [rhp]; rfl)) (bd_s (a := .str (hpT a b g).shown) rfl ?_)) rfl
    rw [eqStrS]
    rfl
  rw [e_rt, R]
end TW


set_option Elab.async false
set_option linter.all false
set_option maxRecDepth 100000
set_option maxHeartbeats 0
open PySem PySem.W PySem.Calls PyProof.Rows
theorem PySem.Challenge.cw_twosquare_k82_whole_heaps_and_paths_holds : PySem.Challenge.rw_twosquare_k82_whole_heaps_and_paths.Holds := by
  w_on; o_law
  refine HandSHeadRun.head_any (r := Hd.R) (q := PySem.W.view Hd.R.prog [40]) (H := Hd.hk) (ob := Hd.ob) (M := 3000) (loose := Hd.loose) (d := HandSHeadRun.topDef Hd.R.prog 40) (kwd := []) Hd.ob_eq
    (by kernel_rfl) (fun s => by kernel_rfl) Hd.run (by kernel_rfl) (by kernel_rfl) (by kernel_rfl) (by rfl) (by first | assumption | decide +kernel) (by decide +kernel) ⟨rfl, rfl, rfl, rfl, rfl, by decide +kernel⟩ ?hw ?hc
  case hw => w_witness2
  case hc =>
    refine TW.walk_ofG (l := PySem.Challenge.rw_twosquare_k82_whole_heaps_and_paths) (n := 63) (k := 200) (x := "script") (CX := L2.CX0) rfl (by decide) (by kernel_rfl) ⟨rfl, by decide, by decide⟩ ?F (fun _ _ _ _ z => z)
    intro w mg fa h Y G hmg0
    obtain ⟨K, KX, c⟩ := Y
    have hmg : mg "law" = some (.ref fa) := hmg0
    obtain ⟨fd_is_number, F_is_number⟩ := c.def_ 0 (d := Hd.d0) rfl
    have m_is_number := He.glo_ok KX G (c.fact 0 (f := .glo "is_number") rfl)
    obtain ⟨fd_check_box, F_check_box⟩ := c.def_ 1 (d := Hd.d1) rfl
    have m_check_box := He.glo_ok KX G (c.fact 1 (f := .glo "check_box") rfl)
    obtain ⟨fd_check_heap, F_check_heap⟩ := c.def_ 2 (d := Hd.d2) rfl
    have m_check_heap := He.glo_ok KX G (c.fact 2 (f := .glo "check_heap") rfl)
    obtain ⟨fd_places_of, F_places_of⟩ := c.def_ 3 (d := Hd.d3) rfl
    have m_places_of := He.glo_ok KX G (c.fact 3 (f := .glo "places_of") rfl)
    obtain ⟨fd_many_heaps, F_many_heaps⟩ := c.def_ 4 (d := Hd.d4) rfl
    have m_many_heaps := He.glo_ok KX G (c.fact 4 (f := .glo "many_heaps") rfl)
    obtain ⟨fd_count_heaps, F_count_heaps⟩ := c.def_ 5 (d := Hd.d5) rfl
    have m_count_heaps := He.glo_ok KX G (c.fact 5 (f := .glo "count_heaps") rfl)
    obtain ⟨fd_many_mirrored, F_many_mirrored⟩ := c.def_ 6 (d := Hd.d6) rfl
    have m_many_mirrored := He.glo_ok KX G (c.fact 6 (f := .glo "many_mirrored") rfl)
    obtain ⟨fd_count_alike, F_count_alike⟩ := c.def_ 7 (d := Hd.d7) rfl
    have m_count_alike := He.glo_ok KX G (c.fact 7 (f := .glo "count_alike") rfl)
    obtain ⟨fd_sizes, F_sizes⟩ := c.def_ 8 (d := Hd.d8) rfl
    have m_sizes := He.glo_ok KX G (c.fact 8 (f := .glo "sizes") rfl)
    obtain ⟨fd_mirror, F_mirror⟩ := c.def_ 9 (d := Hd.d9) rfl
    have m_mirror := He.glo_ok KX G (c.fact 9 (f := .glo "mirror") rfl)
    obtain ⟨fd_other_side, F_other_side⟩ := c.def_ 10 (d := Hd.d10) rfl
    have m_other_side := He.glo_ok KX G (c.fact 10 (f := .glo "other_side") rfl)
    obtain ⟨fd_rolled, F_rolled⟩ := c.def_ 11 (d := Hd.d11) rfl
    have m_rolled := He.glo_ok KX G (c.fact 11 (f := .glo "rolled") rfl)
    obtain ⟨fd_path_of, F_path_of⟩ := c.def_ 12 (d := Hd.d12) rfl
    have m_path_of := He.glo_ok KX G (c.fact 12 (f := .glo "path_of") rfl)
    obtain ⟨fd_paths_of, F_paths_of⟩ := c.def_ 13 (d := Hd.d13) rfl
    have m_paths_of := He.glo_ok KX G (c.fact 13 (f := .glo "paths_of") rfl)
    obtain ⟨fd_points_of, F_points_of⟩ := c.def_ 14 (d := Hd.d14) rfl
    have m_points_of := He.glo_ok KX G (c.fact 14 (f := .glo "points_of") rfl)
    obtain ⟨fd_row_of, F_row_of⟩ := c.def_ 15 (d := Hd.d15) rfl
    have m_row_of := He.glo_ok KX G (c.fact 15 (f := .glo "row_of") rfl)
    obtain ⟨fd_heap_of, F_heap_of⟩ := c.def_ 16 (d := Hd.d16) rfl
    have m_heap_of := He.glo_ok KX G (c.fact 16 (f := .glo "heap_of") rfl)
    obtain ⟨fd__law_cell, F__law_cell⟩ := c.def_ 17 (d := Hd.d17) rfl
    have m__law_cell := He.glo_ok KX G (c.fact 17 (f := .glo "_law_cell") rfl)
    obtain ⟨fd__law_stream, F__law_stream⟩ := c.def_ 18 (d := Hd.d18) rfl
    have m__law_stream := He.glo_ok KX G (c.fact 18 (f := .glo "_law_stream") rfl)
    obtain ⟨fd__law_draw, F__law_draw⟩ := c.def_ 19 (d := Hd.d19) rfl
    have m__law_draw := He.glo_ok KX G (c.fact 19 (f := .glo "_law_draw") rfl)
    obtain ⟨fd__law_common, F__law_common⟩ := c.def_ 20 (d := Hd.d20) rfl
    have m__law_common := He.glo_ok KX G (c.fact 20 (f := .glo "_law_common") rfl)
    obtain ⟨fd__law_heaps, F__law_heaps⟩ := c.def_ 21 (d := Hd.d21) rfl
    have m__law_heaps := He.glo_ok KX G (c.fact 21 (f := .glo "_law_heaps") rfl)
    obtain ⟨fd__law_drawn, F__law_drawn⟩ := c.def_ 22 (d := Hd.d22) rfl
    have m__law_drawn := He.glo_ok KX G (c.fact 22 (f := .glo "_law_drawn") rfl)
    obtain ⟨fd__law_mirror, F__law_mirror⟩ := c.def_ 23 (d := Hd.d23) rfl
    have m__law_mirror := He.glo_ok KX G (c.fact 23 (f := .glo "_law_mirror") rfl)
    obtain ⟨fd__law_other, F__law_other⟩ := c.def_ 24 (d := Hd.d24) rfl
    have m__law_other := He.glo_ok KX G (c.fact 24 (f := .glo "_law_other") rfl)
    obtain ⟨fd__law_rolled, F__law_rolled⟩ := c.def_ 25 (d := Hd.d25) rfl
    have m__law_rolled := He.glo_ok KX G (c.fact 25 (f := .glo "_law_rolled") rfl)
    obtain ⟨fd__law_paths, F__law_paths⟩ := c.def_ 26 (d := Hd.d26) rfl
    have m__law_paths := He.glo_ok KX G (c.fact 26 (f := .glo "_law_paths") rfl)
    obtain ⟨fd__law_meet, F__law_meet⟩ := c.def_ 27 (d := Hd.d27) rfl
    have m__law_meet := He.glo_ok KX G (c.fact 27 (f := .glo "_law_meet") rfl)
    obtain ⟨fd__law_number, F__law_number⟩ := c.def_ 28 (d := Hd.d28) rfl
    have m__law_number := He.glo_ok KX G (c.fact 28 (f := .glo "_law_number") rfl)
    obtain ⟨fd__law_times, F__law_times⟩ := c.def_ 29 (d := Hd.d29) rfl
    have m__law_times := He.glo_ok KX G (c.fact 29 (f := .glo "_law_times") rfl)
    obtain ⟨fd__law_alike, F__law_alike⟩ := c.def_ 30 (d := Hd.d30) rfl
    have m__law_alike := He.glo_ok KX G (c.fact 30 (f := .glo "_law_alike") rfl)
    obtain ⟨fd__law_small, F__law_small⟩ := c.def_ 31 (d := Hd.d31) rfl
    have m__law_small := He.glo_ok KX G (c.fact 31 (f := .glo "_law_small") rfl)
    obtain ⟨fd_law, F_law⟩ := c.def_ 32 (d := Hd.d32) rfl
    have m_law := He.glo_ok KX G (c.fact 32 (f := .glo "law") rfl)
    have Gv : TW.Gb K mg := {
      m_abs := He.free_ok KX G (c.fact 48 (f := .free "abs") rfl)
      m_all := He.free_ok KX G (c.fact 45 (f := .free "all") rfl)
      m_any := He.free_ok KX G (c.fact 46 (f := .free "any") rfl)
      m_enumerate := He.free_ok KX G (c.fact 53 (f := .free "enumerate") rfl)
      m_int := He.free_ok KX G (c.fact 41 (f := .free "int") rfl)
      m_isinstance := He.free_ok KX G (c.fact 40 (f := .free "isinstance") rfl)
      m_len := He.free_ok KX G (c.fact 44 (f := .free "len") rfl)
      m_list := He.free_ok KX G (c.fact 43 (f := .free "list") rfl)
      m_min := He.free_ok KX G (c.fact 49 (f := .free "min") rfl)
      m_range := He.free_ok KX G (c.fact 47 (f := .free "range") rfl)
      m_repr := He.free_ok KX G (c.fact 51 (f := .free "repr") rfl)
      m_sum := He.free_ok KX G (c.fact 50 (f := .free "sum") rfl)
      m_tuple := He.free_ok KX G (c.fact 42 (f := .free "tuple") rfl)
      m_zip := He.free_ok KX G (c.fact 52 (f := .free "zip") rfl)
      i_LONGEST := He.int_ok KX G (c.fact 39 (f := .int "LONGEST" 6) rfl)
      e_BadHeap := ⟨_, He.glo_ok KX G (c.fact 35 (f := .glo "BadHeap") rfl), He.exc_ok (c.fact 36 (f := .exc "BadHeap") rfl)⟩
      e_OutOfRange := ⟨_, He.glo_ok KX G (c.fact 37 (f := .glo "OutOfRange") rfl), He.exc_ok (c.fact 38 (f := .exc "OutOfRange") rfl)⟩
    }
    obtain rfl : fa = He.fAd K Hd.d32.at_ := by
      have e := hmg.symm.trans m_law
      cases e
      rfl
    refine ⟨K, fd_law, TW.spLaw K 63, KX, fun s u => L2.FunD.bindsA (ps := ["script"]) F_law (fun _ _ _ _ _ _ us hl => match us, hl with | [_], _ => rfl) s [u] rfl, fun H a ns hl hO hS => ⟨rfl, a, ns, rfl, hl, hS, hO, fun _ => rfl⟩, fun base KB GB => ?_⟩
    have c__law_cell := TW.w__law_cell (P := PySem.Challenge.rw_twosquare_k82_whole_heaps_and_paths.prog) (w := w) (K := K) (mg := mg) (base := base) Gv  F__law_cell m__law_cell
    have c__law_stream := TW.w__law_stream (P := PySem.Challenge.rw_twosquare_k82_whole_heaps_and_paths.prog) (w := w) (K := K) (mg := mg) (base := base) Gv c__law_cell F__law_stream m__law_stream
    have c__law_number := TW.w__law_number (P := PySem.Challenge.rw_twosquare_k82_whole_heaps_and_paths.prog) (w := w) (K := K) (mg := mg) (base := base) Gv  F__law_number m__law_number
    have c__law_draw := TW.w__law_draw (P := PySem.Challenge.rw_twosquare_k82_whole_heaps_and_paths.prog) (w := w) (K := K) (mg := mg) (base := base) Gv  F__law_draw m__law_draw
    have c__law_drawn := TW.w__law_drawn (P := PySem.Challenge.rw_twosquare_k82_whole_heaps_and_paths.prog) (w := w) (K := K) (mg := mg) (base := base) Gv c__law_draw F__law_drawn m__law_drawn
    have c__law_paths := TW.w__law_paths (P := PySem.Challenge.rw_twosquare_k82_whole_heaps_and_paths.prog) (w := w) (K := K) (mg := mg) (base := base) Gv  F__law_paths m__law_paths
    have c_is_number := TW.w_is_number (P := PySem.Challenge.rw_twosquare_k82_whole_heaps_and_paths.prog) (w := w) (K := K) (mg := mg) (base := base) Gv  F_is_number m_is_number
    have c_check_box := TW.w_check_box (P := PySem.Challenge.rw_twosquare_k82_whole_heaps_and_paths.prog) (w := w) (K := K) (mg := mg) (base := base) Gv c_is_number F_check_box m_check_box
    have c_places_of := TW.w_places_of (P := PySem.Challenge.rw_twosquare_k82_whole_heaps_and_paths.prog) (w := w) (K := K) (mg := mg) (base := base) Gv  F_places_of m_places_of
    have c_sizes := TW.w_sizes (P := PySem.Challenge.rw_twosquare_k82_whole_heaps_and_paths.prog) (w := w) (K := K) (mg := mg) (base := base) Gv c_check_box c_places_of F_sizes m_sizes
    have c__law_heaps := TW.w__law_heaps (P := PySem.Challenge.rw_twosquare_k82_whole_heaps_and_paths.prog) (w := w) (K := K) (mg := mg) (base := base) Gv  F__law_heaps m__law_heaps
    have c_many_heaps := TW.w_many_heaps (P := PySem.Challenge.rw_twosquare_k82_whole_heaps_and_paths.prog) (w := w) (K := K) (mg := mg) (base := base) Gv c_places_of F_many_heaps m_many_heaps
    have c_count_heaps := TW.w_count_heaps (P := PySem.Challenge.rw_twosquare_k82_whole_heaps_and_paths.prog) (w := w) (K := K) (mg := mg) (base := base) Gv c_check_box c_many_heaps F_count_heaps m_count_heaps
    have c_many_mirrored := TW.w_many_mirrored (P := PySem.Challenge.rw_twosquare_k82_whole_heaps_and_paths.prog) (w := w) (K := K) (mg := mg) (base := base) Gv  F_many_mirrored m_many_mirrored
    have c_count_alike := TW.w_count_alike (P := PySem.Challenge.rw_twosquare_k82_whole_heaps_and_paths.prog) (w := w) (K := K) (mg := mg) (base := base) Gv c_check_box c_many_heaps c_many_mirrored F_count_alike m_count_alike
    have c__law_mirror := TW.w__law_mirror (P := PySem.Challenge.rw_twosquare_k82_whole_heaps_and_paths.prog) (w := w) (K := K) (mg := mg) (base := base) Gv  F__law_mirror m__law_mirror
    have c__law_other := TW.w__law_other (P := PySem.Challenge.rw_twosquare_k82_whole_heaps_and_paths.prog) (w := w) (K := K) (mg := mg) (base := base) Gv  F__law_other m__law_other
    have c__law_small := TW.w__law_small (P := PySem.Challenge.rw_twosquare_k82_whole_heaps_and_paths.prog) (w := w) (K := K) (mg := mg) (base := base) Gv c__law_heaps c__law_mirror c__law_other c_count_alike c_count_heaps c_sizes F__law_small m__law_small
    have c__law_meet := TW.w__law_meet (P := PySem.Challenge.rw_twosquare_k82_whole_heaps_and_paths.prog) (w := w) (K := K) (mg := mg) (base := base) Gv  F__law_meet m__law_meet
    have c_points_of := TW.w_points_of (P := PySem.Challenge.rw_twosquare_k82_whole_heaps_and_paths.prog) (w := w) (K := K) (mg := mg) (base := base) Gv  F_points_of m_points_of
    have c_row_of := TW.w_row_of (P := PySem.Challenge.rw_twosquare_k82_whole_heaps_and_paths.prog) (w := w) (K := K) (mg := mg) (base := base) Gv  F_row_of m_row_of
    have c_heap_of := TW.w_heap_of (P := PySem.Challenge.rw_twosquare_k82_whole_heaps_and_paths.prog) (w := w) (K := K) (mg := mg) (base := base) Gv c_check_box c_points_of c_row_of F_heap_of m_heap_of
    have c__law_times := TW.w__law_times (P := PySem.Challenge.rw_twosquare_k82_whole_heaps_and_paths.prog) (w := w) (K := K) (mg := mg) (base := base) Gv  F__law_times m__law_times
    have c_check_heap := TW.w_check_heap (P := PySem.Challenge.rw_twosquare_k82_whole_heaps_and_paths.prog) (w := w) (K := K) (mg := mg) (base := base) Gv c_check_box c_is_number F_check_heap m_check_heap
    have c_other_side := TW.w_other_side (P := PySem.Challenge.rw_twosquare_k82_whole_heaps_and_paths.prog) (w := w) (K := K) (mg := mg) (base := base) Gv c_check_heap F_other_side m_other_side
    have c_rolled := TW.w_rolled (P := PySem.Challenge.rw_twosquare_k82_whole_heaps_and_paths.prog) (w := w) (K := K) (mg := mg) (base := base) Gv c_check_heap F_rolled m_rolled
    have c__law_alike := TW.w__law_alike (P := PySem.Challenge.rw_twosquare_k82_whole_heaps_and_paths.prog) (w := w) (K := K) (mg := mg) (base := base) Gv c__law_number F__law_alike m__law_alike
    have c_mirror := TW.w_mirror (P := PySem.Challenge.rw_twosquare_k82_whole_heaps_and_paths.prog) (w := w) (K := K) (mg := mg) (base := base) Gv c_check_heap F_mirror m_mirror
    have c__law_rolled := TW.w__law_rolled (P := PySem.Challenge.rw_twosquare_k82_whole_heaps_and_paths.prog) (w := w) (K := K) (mg := mg) (base := base) Gv  F__law_rolled m__law_rolled
    have c_path_of := TW.w_path_of (P := PySem.Challenge.rw_twosquare_k82_whole_heaps_and_paths.prog) (w := w) (K := K) (mg := mg) (base := base) Gv  F_path_of m_path_of
    have c_paths_of := TW.w_paths_of (P := PySem.Challenge.rw_twosquare_k82_whole_heaps_and_paths.prog) (w := w) (K := K) (mg := mg) (base := base) Gv c_check_heap c_path_of F_paths_of m_paths_of
    exact TW.w_law Gv c__law_alike c__law_draw c__law_drawn c__law_meet c__law_mirror c__law_number c__law_other c__law_paths c__law_rolled c__law_small c__law_stream c__law_times c_check_heap c_count_alike c_count_heaps c_heap_of c_mirror c_other_side c_paths_of c_rolled c_sizes F_law fun ns _ => TW.plain_law ns


