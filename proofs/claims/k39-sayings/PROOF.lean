import PyProof.Rows.All
import Wide.All
import OpenK.AllK
import Wide.FinOn
import HandS.Base
import HandS.Call
import HandS.List
import HandS.Comp
import HandS.Dict
import HandS.Iter
import HandS.Text
import HandS.More
import HandS.Exc
import HandS.Slots
import KE.KIsNot
import KE.KIsAll
import HandS.Wide
import HandS.TupAny
import KE.DataEq
import HandS.TryOnly
import HandS.Words
import HandS.Defaults
import HandS.Ends
import HandS.HeadEnd
import HandS.TupMul
import HandS.WordsDict
import HandS.RaiseMore
import KE.GoesNew
import KE.GoesEnum
import PyProof.ReprLen
import HandS.Star
import HandS.Deep
import HandS.SetFor
import HandS.Zip
import HandS.Style
import KE.KIndexOf
import HandS.IsInst
import HandS.DictComp
import HandS.SlotsOwn
import HandS.Head0
import HandS.Head1
import HandS.Head2
import HandS.HeadHook1
import HandS.HeadHook2
import HandS.HeadHook3
import HandS.HeadHook4
import HandS.Conv
import PyProof.EnumMake
import KE.KDictDisplayH
import KE.KRevSl
import KE.KDictList
import HandS.Flow
import HandS.DictEq
import HandS.ExcInit
import HandS.ExcField
import HandS.ExcOwn
import KE.KExcSuper
import KE.KExcRaise
import HandS.TryMany
import KE.GoesEnumKw
import HandS.SortKw
import HandS.Finally
import KE.KDictKeyed
import KE.KDictPairs
import KE.KDictZip
import PyProof.Rows.ZipGen
import PyProof.ZipIter
import PyProof.Rows.SortShellAny
import HandS.Strs
import KE.KEqNest
import PyProof.NeKinds
import HandS.Codes
import KE.LtData
import KE.DataMinMax
import HandS.SetKeys
import PyProof.DictMoreH
import KE.KDictWalk
import HandS.DictTup
import KE.SortData
import KE.KDictSum
import HandS.ExcValue
import HandS.ExcIs
import KE.KEqDict
import HandS.StrMore
import KE.KStateDown
import PySem.Challenge.RW_saidearly_k39_sayings_told_apart
set_option Elab.async false
set_option linter.all false
set_option maxRecDepth 100000
set_option maxHeartbeats 0
namespace Y
open PySem PySem.Spec PyProof.Rows L2
theorem gZ {α : Type _} {a : α} {l : List α} : (a :: l)[0]? = some a := rfl
theorem gS {α : Type _} {a : α} {l : List α} {i : Nat} : (a :: l)[i+1]? = l[i]? := rfl
theorem sZ {α : Type _} {a b : α} {l : List α} : (a :: l).set 0 b = b :: l := rfl
theorem sS {α : Type _} {a b : α} {l : List α} {i : Nat} : (a :: l).set (i+1) b = a :: l.set i b := rfl
inductive EV where
  | non | bl (b : Bool) | int (i : Int) | str (s : List Nat) | tup (xs : List EV) | ktup (xs : List EV) | ref (r : Nat) | adr (a : Addr) | ty (n : String)
inductive EO where
  | lst (xs : List EV) | frz (xs : List EV) | dic (kvs : List (EV × EV)) | dct (kvs : List (EV × EV)) | ins (C : Addr) (fs : List (Str × EV)) | slo (C : Addr) (vs : List (Option EV)) | dlk (o : Obj) (l : List (L2.Key × V)) (kvs : List (EV × EV)) | dlt (o : Obj) (l : List (List L2.Key × V)) (kvs : List (EV × EV)) | xob (fs : List (Str × EV)) | mark (m : Nat → Addr) (n : Nat) (H : Hp) | exv (C : Addr) (d : Option Nat) | gone
abbrev En := List (Option EV)
abbrev EH := List EO
abbrev EK := EV → EH → Prop
abbrev LT := En → EH → EK → Prop
abbrev S (l : List Nat) : Str := ⟨l.toArray⟩
def NoTup (u : HO) : Prop := (∀ xs, u ≠ .tup xs) ∧ (∀ q xs, u ≠ .frz q (.tup xs)) ∧ (∀ q xs, u ≠ .frz q (.lst xs)) ∧ (∀ l, u ≠ .xd l) ∧ ∀ y, u ≠ .own y
def FrzL (K : PySem.W.Frag) (H : Hp) (a : Addr) (xs : List V) : Prop := (∃ o, H a = some (.frz o (.lst xs))) ∨
  ∃ (o : Obj) (its : Array Value) (n : Nat), K.lookup a = some o ∧ o.cls = .type "list" ∧ o.dict = none ∧ o.data = .seq its n ∧ its.size ≤ sizeLine ∧ Vals xs its.toList
theorem FrzL.sql {K : PySem.W.Frag} {H : Hp} {a : Addr} {xs : List V} (h : FrzL K H a xs) : SqL K H a xs := by
  rcases h with ⟨o, h⟩ | h
  · exact .inl (.inr ⟨o, h⟩)
  · exact .inr h
def ExA (C a : Addr) (d : Option Addr) : Heap → Prop := fun h => ∃ (oe : Obj) (vs : Array Value), h.get? a = some oe ∧ Zc (.ref C) d oe ∧ oe.data = .fields vs
def isF : EO → Bool
  | .frz _ => true
  | .xob _ => true
  | .mark .. => true
  | _ => false
def keysL : List EV → Option (List L2.Key)
  | [] => some []
  | .int i :: r => (keysL r).map (Sum.inl i :: ·)
  | .str s :: r => (keysL r).map (Sum.inr (S s) :: ·)
  | _ => none
def keyL : EV → Option (List L2.Key)
  | .tup ks => keysL ks
  | _ => none
structure Ex (K : PySem.W.Frag) (m : Nat → Addr) (n : Nat) (H : Hp) (m' : Nat → Addr) (n' : Nat) (H' : Hp) : Prop where
  le : n ≤ n'
  eq : ∀ r, r < n → m' r = m r
  tup : ∀ a xs, SqT K H a xs → SqT K H' a xs
  tk : ∀ a xs, H a = some (.tup xs) → H' a = some (.tup xs)
structure IsiOk (K : PySem.W.Frag) (C : Addr) : Prop where
  pg : PySem.W.plainGet K C "__class__" = true
  ic : PySem.W.isClsIn K C = true
  cl : PySem.W.findIn K (.ref C) "__class__" = some (some (.builtin "object.__class__"))
  gt : PySem.W.specialIn K (.builtin "object.__class__") "__get__" = some (some (.builtin "getset_descriptor.__get__"))
  tk : PySem.W.takesIn K (.builtin "object.__class__") = some true
  mo : PySem.W.mroIn K C (.type "object") = some true
  ty : ∀ T ∈ ["int", "bool", "str", "tuple", "dict", "list"], PySem.W.kitOne K (.ref C) (.type T) = some false
section rel
variable (K : PySem.W.Frag) (m : Nat → Addr) (n : Nat) (H : Hp)
mutual
def aC : EV → V → Prop
  | .non, v => v = .non
  | .bl b, v => v = .bl b
  | .int i, v => v = .int i
  | .str s, v => v = .str (S s)
  | .tup xs, v => ∃ a vs, v = .ref a ∧ H a = some (.tup vs) ∧ aO xs vs
  | .ktup xs, v => ∃ a vs, v = .ref a ∧ SqT K H a vs ∧ aO xs vs
  | .ref r, v => r < n ∧ v = .ref (m r)
  | .adr a, v => v = .ref a
  | .ty t, v => v = .ty t
def aO : List EV → List V → Prop
  | [], vs => vs = []
  | x :: xs, vs => ∃ v r, vs = v :: r ∧ aC x v ∧ aO xs r
end
def bH : List (EV × EV) → List (L2.Key × V) → Prop
  | [], l => l = []
  | (k, x) :: r, l => ∃ k' v l', l = (k', v) :: l' ∧ aC K m n H k (kV k') ∧ aC K m n H x v ∧ bH r l'
def cW : List (EV × EV) → List (List L2.Key × V) → Prop
  | [], l => l = []
  | (k, x) :: r, l => ∃ k' v l', l = (k', v) :: l' ∧ keyL k = some k' ∧ aC K m n H x v ∧ cW r l'
def qZ : List (Str × EV) → List (Str × V) → Prop
  | [], l => l = []
  | (f, x) :: r, l => ∃ v l', l = (f, v) :: l' ∧ aC K m n H x v ∧ qZ r l'
def RelO : EO → Addr → Prop
  | .lst xs, a => ∃ vs, H a = some (.lst vs) ∧ aO K m n H xs vs
  | .frz xs, a => ∃ vs, FrzL K H a vs ∧ aO K m n H xs vs
  | .dic kvs, a => ∃ l, H a = some (.dK l) ∧ bH K m n H kvs l
  | .dct kvs, a => ∃ l, H a = some (.dT l) ∧ cW K m n H kvs l
  | .ins C fs, a => ∃ dx l, H a = some (.ins C dx l) ∧ qZ K m n H fs l
  | .slo C vs, a => IsiOk K C ∧ ∃ dx ws, SlX.Slt H a C dx ws ∧ dx ≠ a ∧ (H dx = some (.own a) ∨ H dx = some (.xd [])) ∧ ∀ (i : Nat) (v : EV), vs[i]? = some (some v) → ∃ w, ws[i]? = some (some w) ∧ aC K m n H v w
  | .dlk o l kvs, a => H a = some (.frz o (.dK l)) ∧ bH K m n H kvs l
  | .dlt o l kvs, a => H a = some (.frz o (.dT l)) ∧ cW K m n H kvs l
  | .xob fs, a => ∃ l, H a = some (.xd l) ∧ qZ K m n H fs l
  | .mark m0 n0 H0, _ => Ex K m0 n0 H0 m n H
  | .exv C d, a => (∀ q, d = some q → q < n) ∧ H a = some (.ext (ExA C a (d.map m)))
  | .gone, a => ∃ o, H a = some o ∧ NoTup o
end rel
structure cC (K : PySem.W.Frag) (m : Nat → Addr) (h : EH) (H : Hp) : Prop where
  obj : ∀ r o, h[r]? = some o → RelO K m h.length H o (m r)
  inj : ∀ r q o u, h[r]? = some o → h[q]? = some u → isF o = false → isF u = false → m r = m q → r = q
def qb (K : PySem.W.Frag) (m : Nat → Addr) (n : Nat) (H : Hp) (env : En) (σ : L2.St) : Prop :=
  env.length = σ.length ∧ ∀ (i : Nat) (v : EV), env[i]? = some (some v) → ∃ x, σ[i]? = some (some x) ∧ aC K m n H v x
section
variable {K : PySem.W.Frag} {m m' m2 : Nat → Addr} {n n' n2 : Nat} {H H' H2 : Hp}
theorem Ex.refl : Ex K m n H m n H := ⟨Nat.le_refl _, fun _ _ => rfl, fun _ _ h => h, fun _ _ h => h⟩
theorem Ex.trans (a : Ex K m n H m' n' H') (b : Ex K m' n' H' m2 n2 H2) : Ex K m n H m2 n2 H2 :=
  ⟨Nat.le_trans a.le b.le, fun r h => (b.eq r (Nat.lt_of_lt_of_le h a.le)).trans (a.eq r h), fun x xs h => b.tup x xs (a.tup x xs h), fun x xs h => b.tk x xs (a.tk x xs h)⟩
mutual
theorem aC.ex (E : Ex K m n H m' n' H') : ∀ (e : EV) (v : V), aC K m n H e v → aC K m' n' H' e v
  | .non, v, h => by rw [aC] at h ⊢; exact h
  | .bl _, v, h => by rw [aC] at h ⊢; exact h
  | .int _, v, h => by rw [aC] at h ⊢; exact h
  | .str _, v, h => by rw [aC] at h ⊢; exact h
  | .adr _, v, h => by rw [aC] at h ⊢; exact h
  | .ty _, v, h => by rw [aC] at h ⊢; exact h
  | .ref r, v, h => by
    rw [aC] at h ⊢
    exact ⟨Nat.lt_of_lt_of_le h.1 E.le, by rw [E.eq r h.1]; exact h.2⟩
  | .tup xs, v, h => by
    rw [aC] at h ⊢
    obtain ⟨a, vs, e, q, r⟩ := h
    exact ⟨a, vs, e, E.tk a vs q, aO.ex E xs vs r⟩
  | .ktup xs, v, h => by
    rw [aC] at h ⊢
    obtain ⟨a, vs, e, q, r⟩ := h
    exact ⟨a, vs, e, E.tup a vs q, aO.ex E xs vs r⟩
theorem aO.ex (E : Ex K m n H m' n' H') : ∀ (es : List EV) (vs : List V), aO K m n H es vs → aO K m' n' H' es vs
  | [], vs, h => by rw [aO] at h ⊢; exact h
  | x :: xs, vs, h => by
    rw [aO] at h ⊢
    obtain ⟨v, r, e, q, t⟩ := h
    exact ⟨v, r, e, aC.ex E x v q, aO.ex E xs r t⟩
end
theorem bH.ex (E : Ex K m n H m' n' H') : ∀ (l : List (EV × EV)) (l' : List (L2.Key × V)), bH K m n H l l' → bH K m' n' H' l l'
  | [], l', h => h
  | (k, x) :: r, l', h => by
    obtain ⟨k', v, l2, e, a, b, c⟩ := h
    exact ⟨k', v, l2, e, aC.ex E _ _ a, aC.ex E _ _ b, bH.ex E r l2 c⟩
theorem cW.ex (E : Ex K m n H m' n' H') : ∀ (l : List (EV × EV)) (l' : List (List L2.Key × V)), cW K m n H l l' → cW K m' n' H' l l'
  | [], l', h => h
  | (k, x) :: r, l', h => by
    obtain ⟨k', v, l2, e, a, b, c⟩ := h
    exact ⟨k', v, l2, e, a, aC.ex E _ _ b, cW.ex E r l2 c⟩
theorem qZ.ex (E : Ex K m n H m' n' H') : ∀ (l : List (Str × EV)) (l' : List (Str × V)), qZ K m n H l l' → qZ K m' n' H' l l'
  | [], l', h => h
  | (k, x) :: r, l', h => by
    obtain ⟨v, l2, e, b, c⟩ := h
    exact ⟨v, l2, e, aC.ex E _ _ b, qZ.ex E r l2 c⟩
theorem qb.ex (E : Ex K m n H m' n' H') {env : En} {σ : L2.St} (R : qb K m n H env σ) : qb K m' n' H' env σ :=
  ⟨R.1, fun i v h => let ⟨x, a, b⟩ := R.2 i v h; ⟨x, a, aC.ex E _ _ b⟩⟩
theorem RelO.ex (E : Ex K m n H m' n' H') {o : EO} {a : Addr} (he : H' a = H a) (hx : ∀ b, (H b = some (.xd []) → H' b = some (.xd [])) ∧ (H b = some (.own a) → H' b = some (.own a))) (R : RelO K m n H o a) : RelO K m' n' H' o a := by
  cases o with
  | lst xs => obtain ⟨vs, e, r⟩ := R; exact ⟨vs, he.trans e, aO.ex E _ _ r⟩
  | frz xs =>
    obtain ⟨vs, e, r⟩ := R
    refine ⟨vs, ?_, aO.ex E _ _ r⟩
    rcases e with ⟨o, e⟩ | e
    · exact .inl ⟨o, he.trans e⟩
    · exact .inr e
  | dic xs => obtain ⟨vs, e, r⟩ := R; exact ⟨vs, he.trans e, bH.ex E _ _ r⟩
  | dct xs => obtain ⟨vs, e, r⟩ := R; exact ⟨vs, he.trans e, cW.ex E _ _ r⟩
  | ins C fs => obtain ⟨dx, vs, e, r⟩ := R; exact ⟨dx, vs, he.trans e, qZ.ex E _ _ r⟩
  | xob fs => obtain ⟨l, e, r⟩ := R; exact ⟨l, he.trans e, qZ.ex E _ _ r⟩
  | mark m0 n0 H0 => exact Ex.trans R E
  | slo C fs =>
    obtain ⟨io, dx, ws, e, ne, hd, r⟩ := R
    refine ⟨io, dx, ws, ?_, ne, hd.imp (hx _).2 (hx _).1, fun i v q => let ⟨w, a, b⟩ := r i v q; ⟨w, a, aC.ex E _ _ b⟩⟩
    rcases e with ⟨e, z⟩ | ⟨e, z⟩
    · exact .inl ⟨he.trans e, z⟩
    · exact .inr ⟨he.trans e, (hx _).1 z⟩
  | dlk o l xs => obtain ⟨e, r⟩ := R; exact ⟨he.trans e, bH.ex E _ _ r⟩
  | dlt o l xs => obtain ⟨e, r⟩ := R; exact ⟨he.trans e, cW.ex E _ _ r⟩
  | exv C d => exact ⟨fun q z => Nat.lt_of_lt_of_le (R.1 q z) E.le, by rw [he, R.2, show d.map m' = d.map m from by cases d with | none => rfl | some q => exact congrArg some (E.eq q (R.1 q rfl))]⟩
  | gone => obtain ⟨o, e, r⟩ := R; exact ⟨o, he.trans e, r⟩
theorem RelO.there {o : EO} {a : Addr} (R : RelO K m n H o a) (hf : isF o = false) : ∃ u, H a = some u ∧ NoTup u := by
  cases o with
  | lst xs => obtain ⟨vs, e, r⟩ := R; exact ⟨_, e, fun _ z => (nomatch z), fun _ _ z => (nomatch z), fun _ _ z => (nomatch z), fun _ z => (nomatch z), fun _ z => nomatch z⟩
  | frz xs => cases hf
  | dic xs => obtain ⟨vs, e, r⟩ := R; exact ⟨_, e, fun _ z => (nomatch z), fun _ _ z => (nomatch z), fun _ _ z => (nomatch z), fun _ z => (nomatch z), fun _ z => nomatch z⟩
  | dct xs => obtain ⟨vs, e, r⟩ := R; exact ⟨_, e, fun _ z => (nomatch z), fun _ _ z => (nomatch z), fun _ _ z => (nomatch z), fun _ z => (nomatch z), fun _ z => nomatch z⟩
  | ins C fs => obtain ⟨dx, vs, e, r⟩ := R; exact ⟨_, e, fun _ z => (nomatch z), fun _ _ z => (nomatch z), fun _ _ z => (nomatch z), fun _ z => (nomatch z), fun _ z => nomatch z⟩
  | xob fs => cases hf
  | mark m0 n0 H0 => cases hf
  | slo C fs =>
    obtain ⟨_, dx, ws, e, _, _, r⟩ := R
    rcases e with ⟨e, z⟩ | ⟨e, z⟩
    · exact ⟨_, e, fun _ z => (nomatch z), fun _ _ z => (nomatch z), fun _ _ z => (nomatch z), fun _ z => (nomatch z), fun _ z => nomatch z⟩
    · refine ⟨_, e, ?_⟩
      unfold SlX.SlO
      exact ⟨fun _ z => (nomatch z), fun _ _ z => (nomatch z), fun _ _ z => (nomatch z), fun _ z => (nomatch z), fun _ z => nomatch z⟩
  | dlk o l xs => obtain ⟨e, r⟩ := R; exact ⟨_, e, fun _ z => (nomatch z), fun _ _ z => (by cases z), fun _ _ z => (by cases z), fun _ z => (nomatch z), fun _ z => nomatch z⟩
  | dlt o l xs => obtain ⟨e, r⟩ := R; exact ⟨_, e, fun _ z => (nomatch z), fun _ _ z => (by cases z), fun _ _ z => (by cases z), fun _ z => (nomatch z), fun _ z => nomatch z⟩
  | exv C d => exact ⟨_, R.2, fun _ z => (nomatch z), fun _ _ z => (nomatch z), fun _ _ z => (nomatch z), fun _ z => (nomatch z), fun _ z => nomatch z⟩
  | gone => obtain ⟨o, e, r⟩ := R; exact ⟨o, e, r⟩
theorem RelO.off (E : Ex K m n H m' n' H') {o : EO} {a p : Addr} (R : RelO K m n H o a) (hp : ∀ u, H p = some u → NoTup u) (h : isF o = false → a ≠ p) (he : a ≠ p → H' a = H a) (hx : ∀ b, (H b = some (.xd []) → H' b = some (.xd [])) ∧ (H b = some (.own a) → H' b = some (.own a))) : RelO K m' n' H' o a := by
  by_cases z : a = p
  · subst z
    cases o with
    | frz xs =>
      obtain ⟨vs, e, r⟩ := R
      refine ⟨vs, ?_, aO.ex E _ _ r⟩
      rcases e with ⟨o, e⟩ | e
      · exact absurd rfl ((hp _ e).2.2.1 o vs)
      · exact .inr e
    | xob fs =>
      obtain ⟨l, e, r⟩ := R
      exact absurd rfl ((hp _ e).2.2.2.1 l)
    | mark m0 n0 H0 => exact Ex.trans R E
    | _ => exact absurd rfl (h rfl)
  · exact R.ex E (he z) hx
theorem aO.length : ∀ {es : List EV} {vs : List V}, aO K m n H es vs → es.length = vs.length
  | [], vs, h => by rw [aO] at h; subst h; rfl
  | x :: xs, vs, h => by
    rw [aO] at h
    obtain ⟨v, r, e, _, t⟩ := h
    subst e
    simp [aO.length t]
theorem aO.at : ∀ {es : List EV} {vs : List V} {i : Nat} {x : EV}, aO K m n H es vs → es[i]? = some x → ∃ v, vs[i]? = some v ∧ aC K m n H x v
  | [], vs, i, x, h, e => by simp at e
  | y :: ys, vs, 0, x, h, e => by
    rw [aO] at h
    obtain ⟨v, r, rfl, q, t⟩ := h
    simp at e; subst e
    exact ⟨v, rfl, q⟩
  | y :: ys, vs, i + 1, x, h, e => by
    rw [aO] at h
    obtain ⟨v, r, rfl, q, t⟩ := h
    obtain ⟨u, a, b⟩ := aO.at (i := i) (x := x) t (by simpa using e)
    exact ⟨u, by simpa using a, b⟩
theorem aO.app : ∀ {es fs : List EV} {vs us : List V}, aO K m n H es vs → aO K m n H fs us → aO K m n H (es ++ fs) (vs ++ us)
  | [], fs, vs, us, h, g => by rw [aO] at h; subst h; exact g
  | y :: ys, fs, vs, us, h, g => by
    rw [aO] at h
    obtain ⟨v, r, rfl, q, t⟩ := h
    rw [List.cons_append, List.cons_append, aO]
    exact ⟨v, r ++ us, rfl, q, aO.app t g⟩
theorem aO.nil : aO K m n H [] [] := by rw [aO]
theorem aO.cons {x : EV} {v : V} {xs : List EV} {vs : List V} (a : aC K m n H x v) (b : aO K m n H xs vs) : aO K m n H (x :: xs) (v :: vs) := by
  rw [aO]; exact ⟨v, vs, rfl, a, b⟩
theorem aO.one {x : EV} {v : V} (a : aC K m n H x v) : aO K m n H [x] [v] := .cons a .nil
theorem aO.take : ∀ {es : List EV} {vs : List V} (k : Nat), aO K m n H es vs → aO K m n H (es.take k) (vs.take k)
  | _, _, 0, _ => by simpa using aO.nil
  | [], vs, k + 1, h => by rw [aO] at h; subst h; simpa using aO.nil
  | y :: ys, vs, k + 1, h => by
    rw [aO] at h
    obtain ⟨v, r, rfl, q, t⟩ := h
    rw [List.take_succ_cons, List.take_succ_cons]
    exact .cons q (aO.take k t)
theorem aO.drop : ∀ {es : List EV} {vs : List V} (k : Nat), aO K m n H es vs → aO K m n H (es.drop k) (vs.drop k)
  | _, _, 0, h => by simpa using h
  | [], vs, k + 1, h => by rw [aO] at h; subst h; simpa using aO.nil
  | y :: ys, vs, k + 1, h => by
    rw [aO] at h
    obtain ⟨v, r, rfl, q, t⟩ := h
    rw [List.drop_succ_cons, List.drop_succ_cons]
    exact aO.drop k t
theorem aO.set {x : EV} {v : V} (a : aC K m n H x v) : ∀ {es : List EV} {vs : List V} (k : Nat), aO K m n H es vs → aO K m n H (es.set k x) (vs.set k v)
  | [], vs, k, h => by rw [aO] at h; subst h; simpa using aO.nil
  | y :: ys, vs, 0, h => by
    rw [aO] at h
    obtain ⟨w, r, rfl, q, t⟩ := h
    exact .cons a t
  | y :: ys, vs, k + 1, h => by
    rw [aO] at h
    obtain ⟨w, r, rfl, q, t⟩ := h
    exact .cons q (aO.set a k t)
theorem aO.reverse : ∀ {es : List EV} {vs : List V}, aO K m n H es vs → aO K m n H es.reverse vs.reverse
  | [], vs, h => by rw [aO] at h; subst h; simpa using aO.nil
  | y :: ys, vs, h => by
    rw [aO] at h
    obtain ⟨w, r, rfl, q, t⟩ := h
    rw [List.reverse_cons, List.reverse_cons]
    exact aO.app (aO.reverse t) (.one q)
theorem sqT_upd {a p : Addr} {xs : List V} {o : HO} (h : SqT K H a xs) (hp : ∀ u, H p = some u → NoTup u) : SqT K (upd H p o) a xs := by
  rcases h with h | h
  · refine .inl ?_
    have ne : a ≠ p := by
      rintro rfl
      rcases h with h | ⟨q, h⟩
      · exact (hp _ h).1 _ rfl
      · exact (hp _ h).2.1 _ _ rfl
    rcases h with h | ⟨q, h⟩
    · exact .inl (by rw [upd_ne ne]; exact h)
    · exact .inr ⟨q, by rw [upd_ne ne]; exact h⟩
  · exact .inr h
theorem upd_xd {p a : Addr} {o : HO} (hp : ∀ u, H p = some u → NoTup u) : ∀ b, (H b = some (.xd []) → upd H p o b = some (.xd [])) ∧ (H b = some (.own a) → upd H p o b = some (.own a)) := fun b => by
  refine ⟨fun e => ?_, fun e => ?_⟩
  · have ne : b ≠ p := by
      rintro rfl
      exact (hp _ e).2.2.2.1 _ rfl
    rw [upd_ne ne]; exact e
  · have ne : b ≠ p := by
      rintro rfl
      exact (hp _ e).2.2.2.2 _ rfl
    rw [upd_ne ne]; exact e
theorem free_no {p : Addr} (hp : H p = none) : ∀ u, H p = some u → NoTup u := fun u e => by rw [hp] at e; cases e
theorem tk_upd {a p : Addr} {xs : List V} {o : HO} (h : H a = some (.tup xs)) (hp : ∀ u, H p = some u → NoTup u) : upd H p o a = some (.tup xs) := by
  have ne : a ≠ p := by
    rintro rfl
    exact (hp _ h).1 _ rfl
  rw [upd_ne ne]; exact h
theorem Ex.tup1 {p : Addr} {o : HO} (hp : H p = none) : Ex K m n H m n (upd H p o) :=
  ⟨Nat.le_refl _, fun _ _ => rfl, fun a xs h => sqT_upd h (free_no hp), fun a xs h => tk_upd h (free_no hp)⟩
theorem cC.tup {h : EH} {p : Addr} {o : HO} (R : cC K m h H) (hp : H p = none) : cC K m h (upd H p o) := by
  refine ⟨fun r e hr => ?_, R.inj⟩
  have q := R.obj r e hr
  refine q.off (Ex.tup1 hp) (free_no hp) (fun hf => ?_) (fun z => upd_ne z) (upd_xd (free_no hp))
  obtain ⟨u, hu, _⟩ := q.there hf
  exact ne_of_none hu hp
def oU (m : Nat → Addr) (n : Nat) (p : Addr) : Nat → Addr := fun r => if r = n then p else m r
theorem nY {p : Addr} {r : Nat} (h : r < n) : oU m n p r = m r := if_neg (Nat.ne_of_lt h)
theorem jx {p : Addr} : oU m n p n = p := if_pos rfl
theorem Ex.new {h : EH} {p : Addr} {o : HO} {e : EO} (hp : H p = none) : Ex K m h.length H (oU m h.length p) (h ++ [e]).length (upd H p o) :=
  ⟨by simp, fun r hr => nY hr, fun a xs q => sqT_upd q (free_no hp), fun a xs q => tk_upd q (free_no hp)⟩
theorem lU {h : EH} {e u : EO} {r : Nat} (hr : (h ++ [e])[r]? = some u) : (r < h.length ∧ h[r]? = some u) ∨ (r = h.length ∧ u = e) := by
  by_cases q : r < h.length
  · rw [List.getElem?_append_left q] at hr
    exact .inl ⟨q, hr⟩
  · rw [List.getElem?_append_right (by omega)] at hr
    have : r - h.length = 0 := by
      have := (List.getElem?_eq_some_iff.mp hr).1
      simp at this; omega
    rw [this] at hr
    simp at hr
    exact .inr ⟨by omega, hr.symm⟩
theorem cC.new {h : EH} {p : Addr} {o : HO} {e : EO} (R : cC K m h H) (hp : H p = none)
    (new : RelO K (oU m h.length p) (h ++ [e]).length (upd H p o) e p) : cC K (oU m h.length p) (h ++ [e]) (upd H p o) := by
  have there : ∀ r u, h[r]? = some u → isF u = false → m r ≠ p := fun r u hr hf => by
    obtain ⟨w, hw, _⟩ := (R.obj r u hr).there hf
    exact ne_of_none hw hp
  refine ⟨fun r u hr => ?_, fun r q u v hr hq fu fv z => ?_⟩
  · rcases lU hr with ⟨q, hr⟩ | ⟨rfl, rfl⟩
    · rw [nY q]
      exact (R.obj r u hr).off (Ex.new hp) (free_no hp) (there r u hr) (fun z => upd_ne z) (upd_xd (free_no hp))
    · rw [jx]; exact new
  · rcases lU hr with ⟨a, hr'⟩ | ⟨a, a'⟩ <;> rcases lU hq with ⟨b, hq'⟩ | ⟨b, b'⟩
    · rw [nY a, nY b] at z; exact R.inj r q u v hr' hq' fu fv z
    · rw [b, nY a, jx] at z; exact absurd z (there r u hr' fu)
    · rw [a, nY b, jx] at z; exact absurd z.symm (there q v hq' fv)
    · rw [a, b]
theorem cC.tops {h : EH} {r : Nat} {e : EO} (R : cC K m h H) (hr : h[r]? = some e) (hf : isF e = false := by rfl) : ∀ u, H (m r) = some u → NoTup u := fun u z => by
  obtain ⟨w, hw, nt⟩ := (R.obj r e hr).there hf
  rw [hw] at z; cases z; exact nt
theorem Ex.write {h : EH} {r : Nat} {o : HO} {e e' : EO} (R : cC K m h H) (hr : h[r]? = some e) (hf : isF e = false := by rfl) : Ex K m h.length H m (h.set r e').length (upd H (m r) o) :=
  ⟨by simp, fun _ _ => rfl, fun a xs q => sqT_upd q (R.tops hr hf), fun a xs q => tk_upd q (R.tops hr hf)⟩
theorem cC.write {h : EH} {r : Nat} {o : HO} {e e' : EO} (R : cC K m h H) (hr : h[r]? = some e)
    (new : RelO K m (h.set r e').length (upd H (m r) o) e' (m r)) (hf : isF e = false := by rfl) : cC K m (h.set r e') (upd H (m r) o) := by
  have hlt := (List.getElem?_eq_some_iff.mp hr).1
  have set_cases : ∀ {q : Nat} {u : EO}, (h.set r e')[q]? = some u → (q = r ∧ u = e') ∨ (q ≠ r ∧ h[q]? = some u) := fun {q u} hq => by
    by_cases z : r = q
    · subst z
      rw [List.getElem?_set_self hlt] at hq
      cases hq
      exact .inl ⟨rfl, rfl⟩
    · rw [List.getElem?_set_ne z] at hq
      exact .inr ⟨fun y => z y.symm, hq⟩
  refine ⟨fun q u hq => ?_, fun q p u v hq hp fu fv z => ?_⟩
  · rcases set_cases hq with ⟨rfl, rfl⟩ | ⟨z, hq⟩
    · exact new
    · exact (R.obj q u hq).off (Ex.write R hr hf) (R.tops hr hf) (fun fu y => z (R.inj q r u e hq hr fu hf y)) (fun y => upd_ne y) (upd_xd (R.tops hr hf))
  · rcases set_cases hq with ⟨a, a'⟩ | ⟨a, hq'⟩ <;> rcases set_cases hp with ⟨b, b'⟩ | ⟨b, hp'⟩
    · rw [a, b]
    · rw [a] at z; exact absurd (R.inj p r v e hp' hr fv hf z.symm) b
    · rw [b] at z; exact absurd (R.inj q r u e hq' hr fu hf z) a
    · exact R.inj q p u v hq' hp' fu fv z
def Kon (K : PySem.W.Frag) (m : Nat → Addr) (n : Nat) (H : Hp) (P : EK) (Q : VK) : Prop :=
  ∀ v h', P v h' → ∀ (m' : Nat → Addr) (H' : Hp) (x : V), Ex K m n H m' h'.length H' → cC K m' h' H' → aC K m' h'.length H' v x → Q x H'
theorem Kon.ex {P : EK} {Q : VK} (E : Ex K m n H m' n' H') (k : Kon K m n H P Q) : Kon K m' n' H' P Q := fun v h' p m2 H2 x E2 R r => k v h' p m2 H2 x (E.trans E2) R r
structure At (K : PySem.W.Frag) (env : En) (h : EH) (m : Nat → Addr) (σ : L2.St) (H : Hp) : Prop where
  hp : cC K m h H
  nm : qb K m h.length H env σ
theorem At.ex {env : En} {h h' : EH} {σ : L2.St} (a : At K env h m σ H) (E : Ex K m h.length H m' h'.length H') (R : cC K m' h' H') : At K env h' m' σ H' := ⟨R, a.nm.ex E⟩
def up (K : PySem.W.Frag) (t : LT) : TE := fun σ H Q => ∃ m env h P, At K env h m σ H ∧ t env h P ∧ Kon K m h.length H P Q
structure LE (X : Cx) (e : Expr) (t : LT) : Prop where
  pe : PE X e (up X.K t)
abbrev LTt := En → EH → (Bool → EH → Prop) → Prop
def upT (K : PySem.W.Frag) (t : LTt) : TT := fun σ H Q => ∃ m env h P, At K env h m σ H ∧ t env h P ∧
  ∀ b h', P b h' → ∀ (m' : Nat → Addr) (H' : Hp), Ex K m h.length H m' h'.length H' → cC K m' h' H' → Q b H'
structure LTe (X : Cx) (e : Expr) (t : LTt) : Prop where
  pt : PT X e (upT X.K t)
structure LWe (X : Cx) (e : Expr) (t : LTt) : Prop where
  pw : PW X e (upT X.K t)
abbrev LA := En → EH → (List EV → EH → Prop) → Prop
def KonA (K : PySem.W.Frag) (m : Nat → Addr) (n : Nat) (H : Hp) (P : List EV → EH → Prop) (Q : List V → Hp → Prop) : Prop :=
  ∀ vs h', P vs h' → ∀ (m' : Nat → Addr) (H' : Hp) (xs : List V), Ex K m n H m' h'.length H' → cC K m' h' H' → aO K m' h'.length H' vs xs → Q xs H'
def upA (K : PySem.W.Frag) (t : LA) : TA := fun σ H Q => ∃ m env h P, At K env h m σ H ∧ t env h P ∧ KonA K m h.length H P Q
structure LAs (X : Cx) (es : List Expr) (t : LA) : Prop where
  pa : PA X es (upA X.K t)
structure qm where
  nx : En → EH → Prop
  rt : EK
  bk : En → EH → Prop := fun _ _ => False
  ct : En → EH → Prop := fun _ _ => False
abbrev LS := qm → En → EH → Prop
def KonS (K : PySem.W.Frag) (m : Nat → Addr) (n : Nat) (H : Hp) (P : En → EH → Prop) (Q : L2.St → Hp → Prop) : Prop :=
  ∀ env' h', P env' h' → ∀ (m' : Nat → Addr) (H' : Hp) (σ' : L2.St), Ex K m n H m' h'.length H' → At K env' h' m' σ' H' → Q σ' H'
theorem KonS.ex {P : En → EH → Prop} {Q : L2.St → Hp → Prop} (E : Ex K m n H m' n' H') (k : KonS K m n H P Q) : KonS K m' n' H' P Q := fun v h' p m2 H2 x E2 R => k v h' p m2 H2 x (E.trans E2) R
structure KonE (K : PySem.W.Frag) (m : Nat → Addr) (n : Nat) (H : Hp) (P : qm) (Q : Ends) : Prop where
  nx : KonS K m n H P.nx Q.nx
  rt : Kon K m n H P.rt Q.rt
  bk : KonS K m n H P.bk Q.bk
  ct : KonS K m n H P.ct Q.ct
theorem KonE.ex {P : qm} {Q : Ends} (E : Ex K m n H m' n' H') (k : KonE K m n H P Q) : KonE K m' n' H' P Q := ⟨k.nx.ex E, k.rt.ex E, k.bk.ex E, k.ct.ex E⟩
def upS (K : PySem.W.Frag) (t : LS) : TS := fun D σ H => ∃ m env h P, At K env h m σ H ∧ t P env h ∧ KonE K m h.length H P D
structure LSt (X : Cx) (st : Stmt) (t : LS) : Prop where
  ps : PS X st (upS X.K t)
structure LSs (X : Cx) (st : List Stmt) (t : LS) : Prop where
  pss : PSs X st (upS X.K t)
theorem PE.imp {X : Cx} {e : Expr} {t t' : TE} (h : PE X e t) (i : ∀ σ H Q, t' σ H Q → t σ H Q) : PE X e t' := ⟨fun pins s σ H Q I q => h.run pins s σ H Q I (i σ H Q q)⟩
theorem PT.imp {X : Cx} {e : Expr} {t t' : TT} (h : PT X e t) (i : ∀ σ H Q, t' σ H Q → t σ H Q) : PT X e t' := ⟨fun pins s σ H Q I q => h.run pins s σ H Q I (i σ H Q q)⟩
theorem PW.imp {X : Cx} {e : Expr} {t t' : TT} (h : PW X e t) (i : ∀ σ H Q, t' σ H Q → t σ H Q) : PW X e t' := ⟨fun wh pins s σ H Q I q => h.run wh pins s σ H Q I (i σ H Q q)⟩
theorem PA.imp {X : Cx} {e : List Expr} {t t' : TA} (h : PA X e t) (i : ∀ σ H Q, t' σ H Q → t σ H Q) : PA X e t' := ⟨fun p pins s σ H Q I q => h.run p pins s σ H Q I (i σ H Q q)⟩
theorem PS.imp {X : Cx} {e : Stmt} {t t' : TS} (h : PS X e t) (i : ∀ D σ H, t' D σ H → t D σ H) : PS X e t' := ⟨fun pins s σ H D I q => h.run pins s σ H D I (i D σ H q)⟩
theorem PSs.imp {X : Cx} {e : List Stmt} {t t' : TS} (h : PSs X e t) (i : ∀ D σ H, t' D σ H → t D σ H) : PSs X e t' := ⟨fun pins s σ H D I q => h.run pins s σ H D I (i D σ H q)⟩
theorem PI.imp {X : Cx} {tg e : Expr} {t t' : TI} (h : PI X tg e t) (i : ∀ σ H Q, t' σ H Q → t σ H Q) : PI X tg e t' := ⟨fun pins s σ H Q I q => h.run pins s σ H Q I (i σ H Q q)⟩
def ao (i : Nat) : LT := fun env h P => match env[i]? with
  | some (some v) => P v h
  | _ => False
def lC (v : EV) : LT := fun _ h P => P v h
section
variable {X : Cx}
theorem aq (i : Nat) {x : Str} {pos : Pos} (hN : X.N[i]? = some x := by rfl) (hv : Vis X.env.scope x := by first | exact Or.inl rfl | exact Or.inr (Or.inl rfl) | exact Or.inr (Or.inr rfl))
    (hd : (x == ("__debug__" : Str)) = false := by decide) (hcd : (x == ("__classdict__" : Str)) = false := by decide) : LE X (.Name x pos) (ao i) :=
  ⟨PE.imp (pe_var hN hv hd hcd) fun σ H Q ⟨m, env, h, P, a, t, k⟩ => by
    unfold ao at t
    split at t
    · rename_i v e
      obtain ⟨x, ex, rx⟩ := a.nm.2 i v e
      exact ⟨x, ex, k v h t m H x .refl a.hp rx⟩
    · exact t.elim⟩
theorem le_c {e : Expr} {v : V} (x : EV) (h : PE X e (tC v)) (r : ∀ m n H, aC X.K m n H x v) : LE X e (lC x) :=
  ⟨PE.imp h fun σ H Q ⟨m, env, h, P, a, t, k⟩ => k x h t m H v .refl a.hp (r _ _ _)⟩
theorem le_int {i j pos} : LE X (.Constant (.int i) j pos) (lC (.int i)) := le_c _ pe_int fun _ _ _ => by rw [aC]
theorem rG {i j pos} : LE X (.Constant (.bool i) j pos) (lC (.bl i)) := le_c _ pe_bl fun _ _ _ => by rw [aC]
theorem lJ {j pos} : LE X (.Constant .none j pos) (lC .non) := le_c _ pe_non fun _ _ _ => by rw [aC]
theorem le_str (l : List Nat) {x j pos} (h : x = S l := by decide +kernel) : LE X (.Constant (.str x) j pos) (lC (.str l)) := le_c _ pe_str fun _ _ _ => by rw [aC, h]
theorem le_gint (i : Int) {x : Str} {pos : Pos} (hg : Gl X x) (hm : ∃ t, X.mg x = some (.int i t)) (hd : (x == ("__debug__" : Str)) = false := by decide) : LE X (.Name x pos) (lC (.int i)) := by
  obtain ⟨t, e⟩ := hm
  exact le_c _ (pe_glob (v := .int i) hg e ⟨t, rfl⟩ hd) fun _ _ _ => by rw [aC]
theorem le_gstr (l : List Nat) {x : Str} {pos : Pos} (hg : Gl X x) (hm : ∃ t, X.mg x = some (.str (S l) t)) (hd : (x == ("__debug__" : Str)) = false := by decide) : LE X (.Name x pos) (lC (.str l)) := by
  obtain ⟨t, e⟩ := hm
  exact le_c _ (pe_glob (v := .str (S l)) hg e ⟨t, rfl⟩ hd) fun _ _ _ => by rw [aC]
theorem le_gref (a : Addr) {x : Str} {pos : Pos} (hg : Gl X x) (hm : X.mg x = some (.ref a)) (hd : (x == ("__debug__" : Str)) = false := by decide) : LE X (.Name x pos) (lC (.adr a)) :=
  le_c _ (pe_glob (v := .ref a) hg hm rfl hd) fun _ _ _ => by rw [aC]
end
end
end Y
namespace Y
open PySem PySem.Spec PyProof.Rows L2
mutual
inductive Dat (h : EH) : Nat → EV → PyData → Prop
  | non {n : Nat} : Dat h n .non .none
  | bl {n : Nat} (b : Bool) : Dat h n (.bl b) (.bool b)
  | int {n : Nat} (i : Int) : Dat h n (.int i) (.int i)
  | str {n : Nat} (s : List Nat) : Dat h n (.str s) (.str (S s))
  | tup {n : Nat} {xs : List EV} {ds : List PyData} : qI h n xs ds → Dat h (n + 1) (.tup xs) (.tuple ds)
  | ktup {n : Nat} {xs : List EV} {ds : List PyData} : qI h n xs ds → Dat h (n + 1) (.ktup xs) (.tuple ds)
  | lst {n : Nat} {r : Nat} {xs : List EV} {ds : List PyData} : h[r]? = some (.lst xs) → qI h n xs ds → Dat h (n + 1) (.ref r) (.list ds)
inductive qI (h : EH) : Nat → List EV → List PyData → Prop
  | nil {n : Nat} : qI h n [] []
  | cons {n : Nat} {x : EV} {xs : List EV} {d : PyData} {ds : List PyData} : Dat h n x d → qI h n xs ds → qI h n (x :: xs) (d :: ds)
end
section
variable {K : PySem.W.Frag} {m : Nat → Addr} {H : Hp} {h : EH}
mutual
theorem Dat.dp (R : cC K m h H) : ∀ (d : PyData) (n : Nat) (v : EV) (x : V), Dat h n v d → aC K m h.length H v x → Dp K H x d
  | .none, _, _, _, a, r => by cases a; rw [aC] at r; subst r; exact .non
  | .bool b, _, _, _, a, r => by cases a; rw [aC] at r; subst r; exact .bl b
  | .int b, _, _, _, a, r => by cases a; rw [aC] at r; subst r; exact .int b
  | .str b, _, _, _, a, r => by cases a; rw [aC] at r; subst r; exact .str _
  | .tuple ds, _, _, _, a, r => by
    cases a with
    | tup as =>
      rw [aC] at r
      obtain ⟨p, vs, e, q, t⟩ := r
      subst e
      exact .tup (SqT.of q) (qI.dp R ds _ _ _ as t)
    | ktup as =>
      rw [aC] at r
      obtain ⟨p, vs, e, q, t⟩ := r
      subst e
      exact .tup q (qI.dp R ds _ _ _ as t)
  | .list ds, _, _, _, a, r => by
    cases a with
    | lst hr as =>
      rw [aC] at r
      obtain ⟨hl, e⟩ := r
      subst e
      obtain ⟨vs, hv, t⟩ := R.obj _ _ hr
      exact .lst (SqL.of hv) (qI.dp R ds _ _ _ as t)
  | .dict _, _, _, _, a, _ => by cases a
theorem qI.dp (R : cC K m h H) : ∀ (ds : List PyData) (n : Nat) (vs : List EV) (xs : List V), qI h n vs ds → aO K m h.length H vs xs → DpAll K H xs ds
  | [], _, _, _, a, r => by cases a; rw [aO] at r; subst r; exact .nil
  | d :: ds, _, _, _, a, r => by
    cases a with
    | cons a1 a2 =>
      rw [aO] at r
      obtain ⟨v, l, e, r1, r2⟩ := r
      subst e
      exact .cons (Dat.dp R d _ _ _ a1 r1) (qI.dp R ds _ _ _ a2 r2)
end
mutual
theorem Dat.dep : ∀ (d : PyData) (n : Nat) (v : EV), Dat h n v d → d.depth ≤ n ∧ d.plain = true
  | .none, _, _, a => by simp [PyData.depth, PyData.plain]
  | .bool b, _, _, a => by simp [PyData.depth, PyData.plain]
  | .int b, _, _, a => by simp [PyData.depth, PyData.plain]
  | .str b, _, _, a => by simp [PyData.depth, PyData.plain]
  | .tuple ds, _, _, a => by
    cases a with
    | tup as =>
      have := qI.dep ds _ _ as
      simp only [PyData.depth, PyData.plain]
      exact ⟨by omega, this.2⟩
    | ktup as =>
      have := qI.dep ds _ _ as
      simp only [PyData.depth, PyData.plain]
      exact ⟨by omega, this.2⟩
  | .list ds, _, _, a => by
    cases a with
    | lst hr as =>
      have := qI.dep ds _ _ as
      simp only [PyData.depth, PyData.plain]
      exact ⟨by omega, this.2⟩
  | .dict _, _, _, a => by cases a
theorem qI.dep : ∀ (ds : List PyData) (n : Nat) (vs : List EV), qI h n vs ds → PyData.depthAll ds ≤ n ∧ PyData.plainAll ds = true
  | [], _, _, a => by simp [PyData.depthAll, PyData.plainAll]
  | d :: ds, _, _, a => by
    cases a with
    | cons a1 a2 =>
      have h1 := Dat.dep d _ _ a1
      have h2 := qI.dep ds _ _ a2
      simp only [PyData.depthAll, PyData.plainAll, h1.2, h2.2]
      exact ⟨by omega, rfl⟩
end
end
abbrev LO := EV → EV → EH → EK → Prop
def LOp (K : PySem.W.Frag) (r : R2) (o : LO) : Prop :=
  ∀ (m : Nat → Addr) (h : EH) (H : Hp) (v w : EV) (x y : V) (P : EK) (Q : VK), cC K m h H → aC K m h.length H v x → aC K m h.length H w y → o v w h P → Kon K m h.length H P Q → r x y H Q
def oA (X : Cx) (f : Value → Value → Sem Value) (o : LO) : Prop := ∃ r, OpR X f r ∧ LOp X.K r o
def lOp (o : LO) (ta tb : LT) : LT := fun env h P => ta env h fun x h1 => tb env h1 fun y h2 => o x y h2 P
def lB (t : LT) : LTt := fun env h P => t env h fun v h1 => match v with
  | .bl b => P b h1
  | _ => False
theorem Kon.same {K : PySem.W.Frag} {m : Nat → Addr} {H : Hp} {h : EH} {P : EK} {Q : VK} (k : Kon K m h.length H P Q) (R : cC K m h H) {v : EV} {x : V} (p : P v h) (r : aC K m h.length H v x) : Q x H := k v h p m H x .refl R r
theorem Kon.tup {K : PySem.W.Frag} {m : Nat → Addr} {H : Hp} {h : EH} {P : EK} {Q : VK} (k : Kon K m h.length H P Q) (R : cC K m h H) {vs : List EV} {xs : List V} (p : P (.tup vs) h) (r : aO K m h.length H vs xs) {a : Addr} (ha : H a = none) : Q (.ref a) (upd H a (.tup xs)) :=
  k _ h p m _ _ (Ex.tup1 ha) (R.tup ha) (by rw [aC]; exact ⟨a, xs, rfl, upd_same, aO.ex (Ex.tup1 ha) _ _ r⟩)
theorem Kon.lst {K : PySem.W.Frag} {m : Nat → Addr} {H : Hp} {h : EH} {P : EK} {Q : VK} (k : Kon K m h.length H P Q) (R : cC K m h H) {vs : List EV} {xs : List V} (p : P (.ref h.length) (h ++ [.lst vs])) (r : aO K m h.length H vs xs) {a : Addr} (ha : H a = none) : Q (.ref a) (upd H a (.lst xs)) := by
  have E : Ex K m h.length H (oU m h.length a) (h ++ [EO.lst vs]).length (upd H a (.lst xs)) := Ex.new ha
  refine k _ _ p _ _ _ E (R.new ha ⟨xs, upd_same, aO.ex E _ _ r⟩) ?_
  rw [aC]
  exact ⟨by simp, by rw [jx]⟩
section
variable {X : Cx} {a b : Expr} {ta tb : LT} {pos : Pos} {o : LO}
theorem up_bin {K : PySem.W.Frag} {r : R2} (s : LOp K r o) (σ : L2.St) (H : Hp) (Q : VK) (q : up K (lOp o ta tb) σ H Q) : tOp r (up K ta) (up K tb) σ H Q := by
  obtain ⟨m, env, h, P, at_, t, k⟩ := q
  refine ⟨m, env, h, _, at_, t, fun x h1 p1 m1 H1 u E1 R1 r1 => ⟨m1, env, h1, _, at_.ex E1 R1, p1, fun y h2 p2 m2 H2 w E2 R2 r2 => ?_⟩⟩
  exact s _ _ _ _ _ _ _ P Q R2 (aC.ex E2 _ _ r1) r2 p2 (k.ex (E1.trans E2))
theorem bT {op : Operator} (ho : oA X (binaryOp op) o) (ha : LE X a ta) (hb : LE X b tb) : LE X (.BinOp a op b pos) (lOp o ta tb) := by
  obtain ⟨r, hr, s⟩ := ho
  exact ⟨PE.imp (pe_op hr ha.pe hb.pe) (up_bin s)⟩
theorem gQ {op : CmpOp} (ho : oA X (compareOp op) o) (ha : LE X a ta) (hb : LE X b tb) (hm : behindInMarks op b = false := by first | exact nomark _ | with_unfolding_all rfl) : LE X (.Compare a [op] [b] pos) (lOp o ta tb) := by
  obtain ⟨r, hr, s⟩ := ho
  exact ⟨PE.imp (pe_cmpR hr ha.pe hb.pe hm) (up_bin s)⟩
theorem up_test {K : PySem.W.Frag} {t : LT} {tt : TE} (i : ∀ σ H Q, up K t σ H Q → tt σ H Q) (σ : L2.St) (H : Hp) (Q : Bool → Hp → Prop) (q : upT K (lB t) σ H Q) : tTest tt σ H Q := by
  obtain ⟨m, env, h, P, at_, t1, k⟩ := q
  refine i σ H _ ⟨m, env, h, _, at_, t1, fun v h1 p1 m1 H1 x E1 R1 r1 => ?_⟩
  cases v with
  | bl b =>
    rw [aC] at r1
    exact ⟨b, r1, k b h1 p1 m1 H1 E1 R1⟩
  | _ => exact p1.elim
theorem bh {op : CmpOp} (ho : oA X (compareOp op) o) (ha : LE X a ta) (hb : LE X b tb) (hm : behindInMarks op b = false := by first | exact nomark _ | with_unfolding_all rfl) : LTe X (.Compare a [op] [b] pos) (lB (lOp o ta tb)) := by
  obtain ⟨r, hr, s⟩ := ho
  exact ⟨PT.imp (pt_cmpR hr ha.pe hb.pe hm) (up_test (up_bin s))⟩
def bV (o o' : LO) (ta tb tc : LT) : LT := fun env h P => ta env h fun x h1 => tb env h1 fun y h2 => o x y h2 fun z h3 => match z with
  | .bl k => if k = true then tc env h3 fun w h4 => o' y w h4 P else P (.bl false) h3
  | _ => False
theorem up_chain {K : PySem.W.Frag} {r r' : R2} {o o' : LO} {tc : LT} (s : LOp K r o) (s' : LOp K r' o') (σ : L2.St) (H : Hp) (Q : VK) (q : up K (bV o o' ta tb tc) σ H Q) : tChain r r' (up K ta) (up K tb) (up K tc) σ H Q := by
  obtain ⟨m, env, h, P, at_, t, k⟩ := q
  refine ⟨m, env, h, _, at_, t, fun x h1 p1 m1 H1 u E1 R1 r1 => ⟨m1, env, h1, _, at_.ex E1 R1, p1, fun y h2 p2 m2 H2 w E2 R2 r2 => ?_⟩⟩
  refine s _ _ _ _ _ _ _ _ _ R2 (aC.ex E2 _ _ r1) r2 p2 fun z h3 p3 m3 H3 zz E3 R3 r3 => ?_
  cases z with
  | bl c =>
    rw [aC] at r3
    refine ⟨c, r3, ?_⟩
    cases c with
    | false => exact k _ _ p3 m3 H3 _ ((E1.trans E2).trans E3) R3 (by rw [aC])
    | true => exact ⟨m3, env, h3, _, (at_.ex (E1.trans E2) R2).ex E3 R3, p3, fun w' h4 p4 m4 H4 ww E4 R4 r4 => s' _ _ _ _ _ _ _ P Q R4 (aC.ex (E3.trans E4) _ _ r2) r4 p4 (k.ex (((E1.trans E2).trans E3).trans E4))⟩
  | _ => exact p3.elim
theorem le_chain {c : Expr} {tc : LT} {op op' : CmpOp} {o o' : LO} (ho : oA X (compareOp op) o) (ho' : oA X (compareOp op') o') (ha : LE X a ta) (hb : LE X b tb) (hc : LE X c tc)
    (hm : lastMarks [op, op'] [b, c] = false := by with_unfolding_all rfl) : LE X (.Compare a [op, op'] [b, c] pos) (bV o o' ta tb tc) := by
  obtain ⟨r, hr, s⟩ := ho
  obtain ⟨r', hr', s'⟩ := ho'
  exact ⟨PE.imp (pe_chain hr hr' ha.pe hb.pe hc.pe hm) (up_chain s s')⟩
end
def bU : LO := fun v w h P => match v, w with
  | .int i, .int j => P (.int (i + j)) h
  | .int i, .bl b => P (.int (i + b2i b)) h
  | .str a, .str b => a.length + b.length ≤ sizeLine ∧ P (.str (a ++ b)) h
  | .tup a, .tup b => a.length + b.length ≤ sizeLine ∧ P (.tup (a ++ b)) h
  | .ref l, .ref r => match h[l]?, h[r]? with
    | some (.lst a), some (.lst b) => a.length + b.length ≤ sizeLine ∧ P (.ref h.length) (h ++ [.lst (a ++ b)])
    | _, _ => False
  | _, _ => False
theorem S_len (a : List Nat) : (S a).length = a.length := by
  show (S a).cps.size = _
  simp
theorem S_app (a b : List Nat) : S a ++ S b = S (a ++ b) := by
  show (⟨(a.toArray ++ b.toArray)⟩ : Str) = _
  simp
theorem cV {X : Cx} : oA X (binaryOp .Add) bU := by
  refine ⟨_, OpR.or op_add (OpR.or op_add_ib (OpR.or op_add_str (OpR.or op_catA op_cat))), ?_⟩
  intro m h H v w x y P Q R rx ry q k
  unfold bU at q
  split at q
  · rw [aC] at rx ry
    exact .inl ⟨_, _, rx, ry, k.same R q (by rw [aC])⟩
  · rw [aC] at rx
    rw [aC] at ry
    exact .inr (.inl ⟨_, _, rx, ry, k.same R q (by rw [aC])⟩)
  · rw [aC] at rx ry
    exact .inr (.inr (.inl ⟨_, _, rx, ry, by rw [S_len, S_len]; exact q.1, by rw [S_app]; exact k.same R q.2 (by rw [aC])⟩))
  · rename_i a b
    rw [aC] at rx ry
    obtain ⟨p, xs, rfl, hx, r1⟩ := rx
    obtain ⟨p', ys, rfl, hy, r2⟩ := ry
    refine .inr (.inr (.inr (.inl ⟨p, p', xs, ys, rfl, rfl, SqT.of hx, SqT.of hy, by rw [← r1.length, ← r2.length]; exact q.1, fun e => ?_, fun _ e => ?_, fun _ _ z hz => ?_⟩)))
    · subst e
      have : a = [] := by cases a with
        | nil => rfl
        | cons _ _ => have := r1.length; simp at this
      subst this
      exact k.same R q.2 (by rw [aC]; exact ⟨p', ys, rfl, hy, r2⟩)
    · subst e
      have : b = [] := by cases b with
        | nil => rfl
        | cons _ _ => have := r2.length; simp at this
      subst this
      refine k.same R q.2 ?_
      rw [List.append_nil, aC]
      exact ⟨p, xs, rfl, hx, r1⟩
    · exact k.tup R q.2 (r1.app r2) hz
  · rw [aC] at rx ry
    obtain ⟨_, rfl⟩ := rx
    obtain ⟨_, rfl⟩ := ry
    split at q
    · rename_i e1 e2
      obtain ⟨xs, a1, r1⟩ := R.obj _ _ e1
      obtain ⟨ys, a2, r2⟩ := R.obj _ _ e2
      refine .inr (.inr (.inr (.inr ⟨_, _, xs, ys, rfl, rfl, a1, a2, by rw [← r1.length, ← r2.length]; exact q.1, fun z hz => ?_⟩)))
      exact k.lst R q.2 (r1.app r2) hz
    · exact q.elim
  · exact q.elim
def fP (C : Int → Int → Prop) (f : Int → Int → Int) : LO := fun v w h P => match v, w with
  | .int i, .int j => C i j ∧ P (.int (f i j)) h
  | _, _ => False
def eQ (f : Int → Int → EV) : LO := fun v w h P => match v, w with
  | .int i, .int j => P (f i j) h
  | _, _ => False
theorem lo_int {X : Cx} {op : Operator} {C : Int → Int → Prop} {f : Int → Int → Int} (hr : OpR X (binaryOp op) (rI C fun i j => .int (f i j))) : oA X (binaryOp op) (fP C f) := by
  refine ⟨_, hr, ?_⟩
  intro m h H v w x y P Q R rx ry q k
  unfold fP at q
  split at q
  · rw [aC] at rx ry
    exact ⟨_, _, rx, ry, q.1, k.same R q.2 (by rw [aC])⟩
  · exact q.elim
theorem lo_intP {X : Cx} {fn : Value → Value → Sem Value} {f : Int → Int → EV} {g : Int → Int → V} (hr : OpR X fn (rI0 g)) (e : ∀ K m n H i j, aC K m n H (f i j) (g i j)) : oA X fn (eQ f) := by
  refine ⟨_, hr, ?_⟩
  intro m h H v w x y P Q R rx ry q k
  unfold eQ at q
  split at q
  · rw [aC] at rx ry
    exact ⟨_, _, rx, ry, k.same R q (e _ _ _ _ _ _)⟩
  · exact q.elim
abbrev subE : LO := eQ fun i j => .int (i - j)
abbrev fdivE : LO := fP CDivW fun i j => i / j
abbrev modE : LO := fP (fun _ j => 0 < j) fun i j => i % j
abbrev powE : LO := fP CPow fun i j => i ^ j.toNat
theorem lo_sub {X : Cx} : oA X (binaryOp .Sub) subE := lo_intP op_sub fun _ _ _ _ _ _ => by rw [aC]
theorem lo_fdiv {X : Cx} : oA X (binaryOp .FloorDiv) fdivE := lo_int op_fdivW
theorem lo_mod {X : Cx} : oA X (binaryOp .Mod) modE := lo_int op_mod
theorem lo_pow {X : Cx} : oA X (binaryOp .Pow) powE := lo_int op_pow
abbrev ltE : LO := eQ fun i j => .bl (decide (i < j))
abbrev leE : LO := eQ fun i j => .bl (decide (i ≤ j))
abbrev gtE : LO := eQ fun i j => .bl (decide (j < i))
abbrev geE : LO := eQ fun i j => .bl (decide (j ≤ i))
theorem lo_lt {X : Cx} : oA X (compareOp .Lt) ltE := lo_intP op_lt fun _ _ _ _ _ _ => by rw [aC]
theorem lo_le {X : Cx} : oA X (compareOp .LtE) leE := lo_intP op_le fun _ _ _ _ _ _ => by rw [aC]
theorem lo_gt {X : Cx} : oA X (compareOp .Gt) gtE := lo_intP op_gt fun _ _ _ _ _ _ => by rw [aC]
theorem lo_ge {X : Cx} : oA X (compareOp .GtE) geE := lo_intP op_ge fun _ _ _ _ _ _ => by rw [aC]
def eqE (neg : Bool) : LO := fun v w h P => match v, w with
  | .int i, .int j => P (.bl (neg ^^ decide (i = j))) h
  | .str a, .str b => P (.bl (neg ^^ decide (a = b))) h
  | .bl a, .bl b => P (.bl (neg ^^ decide (a = b))) h
  | v, w => ∃ d e, Dat h 60 v d ∧ Dat h 60 w e ∧ P (.bl (neg ^^ PyData.eqv d e)) h
theorem S_inj {a b : List Nat} : S a = S b ↔ a = b := by
  constructor
  · intro e
    have : a.toArray = b.toArray := congrArg Str.cps e
    simpa using this
  · rintro rfl; rfl
theorem beqD {α : Type} [BEq α] [LawfulBEq α] [DecidableEq α] (a b : α) : (a == b) = decide (a = b) := by
  rw [Bool.eq_iff_iff, beq_iff_eq, decide_eq_true_eq]
theorem eq_sim {K : PySem.W.Frag} {m : Nat → Addr} {h : EH} {H : Hp} {v w : EV} {x y : V} {P : EK} {Q : VK} {neg : Bool} (R : cC K m h H) (rx : aC K m h.length H v x) (ry : aC K m h.length H w y) (q : eqE neg v w h P) (k : Kon K m h.length H P Q) :
    ∃ d e, Dp K H x d ∧ Dp K H y e ∧ d.depth ≤ 60 ∧ d.plain = true ∧ e.plain = true ∧ Q (.bl (neg ^^ PyData.eqv d e)) H := by
  unfold eqE at q
  split at q
  · rename_i i j
    rw [aC] at rx ry; subst rx ry
    refine ⟨_, _, .int i, .int j, by simp [PyData.depth], rfl, rfl, ?_⟩
    rw [show PyData.eqv (.int i) (.int j) = decide (i = j) by simp only [PyData.eqv]; exact beqD i j]
    exact k.same R q (by rw [aC])
  · rename_i i j
    rw [aC] at rx ry; subst rx ry
    refine ⟨_, _, .str _, .str _, by simp [PyData.depth], rfl, rfl, ?_⟩
    rw [show PyData.eqv (.str (S i)) (.str (S j)) = decide (i = j) by simp only [PyData.eqv]; rw [beqD]; exact decide_eq_decide.mpr S_inj]
    exact k.same R q (by rw [aC])
  · rename_i i j
    rw [aC] at rx ry; subst rx ry
    refine ⟨_, _, .bl _, .bl _, by simp [PyData.depth], rfl, rfl, ?_⟩
    rw [show PyData.eqv (.bool i) (.bool j) = decide (i = j) by simp only [PyData.eqv]; exact beqD i j]
    exact k.same R q (by rw [aC])
  · obtain ⟨d, e, d1, e1, p⟩ := q
    exact ⟨d, e, Dat.dp R _ _ _ _ d1 rx, Dat.dp R _ _ _ _ e1 ry, (Dat.dep _ _ _ d1).1, (Dat.dep _ _ _ d1).2, (Dat.dep _ _ _ e1).2, k.same R p (by rw [aC])⟩
def rEqP (neg : Bool) (K : PySem.W.Frag) : R2 := fun x y H Q => ∃ d e, Dp K H x d ∧ Dp K H y e ∧ d.depth ≤ 60 ∧ d.plain = true ∧ e.plain = true ∧ Q (.bl (neg ^^ PyData.eqv d e)) H
theorem eY {X : Cx} (hu : X.A.units + 64 < cLine) : oA X (compareOp .Eq) (eqE false) := by
  refine ⟨rEqP false X.K, ?_, fun m h H v w x y P Q R rx ry q k => eq_sim R rx ry q k⟩
  intro pins s σ H x y v u Q I rx ry h
  obtain ⟨d, e, hd, he, dd, pd, pe, q⟩ := h
  obtain ⟨as, r1⟩ := Dp.reads I d x v hd rx
  obtain ⟨bs, r2⟩ := Dp.reads I e y u he ry
  exact PySem.SeqAt.eq_plain r1 r2 pd pe (by omega) ⟨.bl _, H, I, rfl, by simpa using q⟩
theorem t7 {X : Cx} (hu : X.A.units + 64 < cLine) : oA X (compareOp .NotEq) (eqE true) := by
  refine ⟨rEqP true X.K, ?_, fun m h H v w x y P Q R rx ry q k => eq_sim R rx ry q k⟩
  intro pins s σ H x y v u Q I rx ry h
  obtain ⟨d, e, hd, he, dd, pd, pe, q⟩ := h
  obtain ⟨as, r1⟩ := Dp.reads I d x v hd rx
  obtain ⟨bs, r2⟩ := Dp.reads I e y u he ry
  exact PySem.SeqAt.ne_plain r1 r2 pd pe (by omega) ⟨.bl _, H, I, rfl, by simpa using q⟩
theorem op_isB {X : Cx} : OpR X (compareOp .Is) (fun x y H Q => ∃ a b, x = .bl a ∧ y = .bl b ∧ Q (.bl (decide (a = b))) H) := by
  intro pins s σ H x y v u Q I rx ry h
  obtain ⟨a, b, rfl, rfl, q⟩ := h
  cases (show v = Value.bool a from rx)
  cases (show u = Value.bool b from ry)
  refine is_bool (fin_bl I q ?_)
  cases a <;> cases b <;> rfl
theorem op_notB {X : Cx} : OpR X (compareOp .IsNot) (fun x y H Q => ∃ a b, x = .bl a ∧ y = .bl b ∧ Q (.bl (!decide (a = b))) H) := by
  intro pins s σ H x y v u Q I rx ry h
  obtain ⟨a, b, rfl, rfl, q⟩ := h
  cases (show v = Value.bool a from rx)
  cases (show u = Value.bool b from ry)
  refine isnot_bool (fin_bl I q ?_)
  cases a <;> cases b <;> rfl
def isN (neg : Bool) : LO := fun v w h P => match w with
  | .non => match v with
    | .non => P (.bl (!neg)) h
    | _ => P (.bl neg) h
  | .bl b => match v with
    | .bl a => P (.bl (neg ^^ decide (a = b))) h
    | _ => False
  | _ => False
theorem lo_isN {X : Cx} : oA X (compareOp .Is) (isN false) := by
  refine ⟨_, OpR.or op_isN op_isB, ?_⟩
  intro m h H v w x y P Q R rx ry q k
  unfold isN at q
  split at q
  · rw [aC] at ry
    refine .inl ⟨ry, ?_⟩
    split at q
    · rw [aC] at rx; subst rx
      exact k.same R q (by rw [aC]; rfl)
    · have : x ≠ .non := by
        rintro rfl
        rename_i hv
        cases v <;> simp [aC] at rx
        exact hv rfl
      rw [decide_eq_false this]
      exact k.same R q (by rw [aC]; try rfl)
  · rename_i b
    rw [aC] at ry
    split at q
    · rename_i a
      rw [aC] at rx
      subst rx ry
      exact .inr ⟨a, b, rfl, rfl, k.same R q (by rw [aC]; first | rfl | simp)⟩
    · exact q.elim
  · exact q.elim
theorem lo_notN {X : Cx} : oA X (compareOp .IsNot) (isN true) := by
  refine ⟨_, OpR.or op_notN op_notB, ?_⟩
  intro m h H v w x y P Q R rx ry q k
  unfold isN at q
  split at q
  · rw [aC] at ry
    refine .inl ⟨ry, ?_⟩
    split at q
    · rw [aC] at rx; subst rx
      exact k.same R q (by rw [aC]; rfl)
    · have : x ≠ .non := by
        rintro rfl
        rename_i hv
        cases v <;> simp [aC] at rx
        exact hv rfl
      rw [decide_eq_false this]
      exact k.same R q (by rw [aC]; try rfl)
  · rename_i b
    rw [aC] at ry
    split at q
    · rename_i a
      rw [aC] at rx
      subst rx ry
      exact .inr ⟨a, b, rfl, rfl, k.same R q (by rw [aC]; first | rfl | simp)⟩
    · exact q.elim
  · exact q.elim
end Y
namespace Y
open PySem PySem.Spec PyProof.Rows L2
def dX (v : EV) (h : EH) (P : Bool → Prop) : Prop := match v with
  | .bl b => P b
  | .non => P false
  | .int i => P (i != 0)
  | .str s => s.length ≤ sizeLine ∧ P (!s.isEmpty)
  | .tup xs => P (!xs.isEmpty)
  | .ref r => match h[r]? with
    | some (.lst xs) => P (!xs.isEmpty)
    | some (.dic xs) => P (!xs.isEmpty)
    | _ => False
  | _ => False
def lT (t : LT) : LTt := fun env h P => t env h fun v h1 => dX v h1 fun b => P b h1
def bR (t u : LTt) : LTt := fun env h P => t env h fun c h1 => if c = true then u env h1 P else P false h1
def lOr (t u : LTt) : LTt := fun env h P => t env h fun c h1 => if c = true then P true h1 else u env h1 P
def cY (t : LTt) : LTt := fun env h P => t env h fun c h1 => P (!c) h1
def lIf (t : LTt) (ta tb : LT) : LT := fun env h P => t env h fun c h1 => if c = true then ta env h1 P else tb env h1 P
def bA (ta tb : LT) : LT := fun env h P => ta env h fun v h1 => match v with
  | .bl c => if c = true then tb env h1 P else P (.bl false) h1
  | _ => False
def gD (ta tb : LT) : LT := fun env h P => ta env h fun v h1 => match v with
  | .bl c => if c = true then P (.bl true) h1 else tb env h1 P
  | _ => False
def cM (ta : LT) : LT := fun env h P => ta env h fun v h1 => match v with
  | .bl c => P (.bl (!c)) h1
  | _ => False
section
variable {K : PySem.W.Frag} {m : Nat → Addr} {H : Hp} {h : EH}
theorem aO.isEmpty {n : Nat} {es : List EV} {vs : List V} (r : aO K m n H es vs) : vs.isEmpty = es.isEmpty := by
  cases es with
  | nil => rw [aO] at r; subst r; rfl
  | cons a l => rw [aO] at r; obtain ⟨v, t, rfl, _, _⟩ := r; rfl
theorem bH.isEmpty {n : Nat} {es : List (EV × EV)} {vs : List (L2.Key × V)} (r : bH K m n H es vs) : vs.isEmpty = es.isEmpty := by
  cases es with
  | nil => rw [bH] at r; subst r; rfl
  | cons a l => rw [bH] at r; obtain ⟨v, t, u, rfl, _, _⟩ := r; rfl
theorem tru_sim {v : EV} {x : V} {P : Bool → Prop} (R : cC K m h H) (r : aC K m h.length H v x) (q : dX v h P) : ∃ k, TruV K x H k ∧ P k := by
  unfold dX at q
  split at q
  · rw [aC] at r; subst r; exact ⟨_, rfl, q⟩
  · rw [aC] at r; subst r; exact ⟨_, rfl, q⟩
  · rw [aC] at r; subst r; exact ⟨_, rfl, q⟩
  · rename_i s
    rw [aC] at r; subst r
    refine ⟨_, ⟨by rw [S_len]; exact q.1, rfl⟩, ?_⟩
    rw [S_len]
    have e : (((s.length : Nat) : Int) != 0) = !s.isEmpty := by
      cases s <;> simp
      omega
    rw [e]; exact q.2
  · rw [aC] at r
    obtain ⟨a, vs, rfl, hs, r⟩ := r
    exact ⟨_, .inr (.inl ⟨vs, SqT.of hs, rfl⟩), by rw [r.isEmpty]; exact q⟩
  · rw [aC] at r
    obtain ⟨_, rfl⟩ := r
    split at q
    · rename_i e
      obtain ⟨vs, a, r⟩ := R.obj _ _ e
      exact ⟨_, .inl ⟨vs, SqL.of a, rfl⟩, by rw [r.isEmpty]; exact q⟩
    · rename_i e
      obtain ⟨vs, a, r⟩ := R.obj _ _ e
      exact ⟨_, .inr (.inr ⟨vs, a, rfl⟩), by rw [r.isEmpty]; exact q⟩
    · exact q.elim
  · exact q.elim
end
section
variable {X : Cx} {a b c e : Expr} {es : List Expr} {ta tb : LT} {t u : LTt} {pos : Pos} {rest : List Expr}
theorem di (ha : LE X a ta) (he : ∀ whole, isTrue a X.env whole = (do let v ← whole; standAt a.pos; holding [v] (truthy v)) := by intro _; rfl) : LTe X a (lT ta) := by
  refine ⟨PT.imp (pt_truth ha.pe he) fun σ H Q ⟨m, env, h, P, at_, t1, k⟩ => ⟨m, env, h, _, at_, t1, fun v h1 p1 m1 H1 x E1 R1 r1 => ?_⟩⟩
  obtain ⟨c, tc, pc⟩ := tru_sim R1 r1 p1
  exact ⟨c, tc, k c h1 pc m1 H1 E1 R1⟩
theorem LWe.lt (w : LWe X e t) : LTe X e t := ⟨w.pw.pt⟩
theorem jd (ha : LTe X a t) : LWe X (.BoolOp .And [a] pos) t := ⟨pw_and1 ha.pt⟩
theorem lw_or1 (ha : LTe X a t) : LWe X (.BoolOp .Or [a] pos) t := ⟨pw_or1 ha.pt⟩
theorem jW (ha : LTe X a t) (hb : LWe X (.BoolOp .And (b :: rest) pos) u) : LWe X (.BoolOp .And (a :: b :: rest) pos) (bR t u) := by
  refine ⟨PW.imp (pw_and ha.pt hb.pw) fun σ H Q ⟨m, env, h, P, at_, t1, k⟩ => ⟨m, env, h, _, at_, t1, fun c h1 p1 m1 H1 E1 R1 => ?_⟩⟩
  cases c with
  | true =>
    rw [if_pos rfl] at p1 ⊢
    exact ⟨m1, env, h1, P, at_.ex E1 R1, p1, fun c2 h2 p2 m2 H2 E2 R2 => k c2 h2 p2 m2 H2 (E1.trans E2) R2⟩
  | false =>
    rw [if_neg Bool.false_ne_true] at p1 ⊢
    exact k _ _ p1 m1 H1 E1 R1
theorem lw_or (ha : LTe X a t) (hb : LWe X (.BoolOp .Or (b :: rest) pos) u) : LWe X (.BoolOp .Or (a :: b :: rest) pos) (lOr t u) := by
  refine ⟨PW.imp (pw_or ha.pt hb.pw) fun σ H Q ⟨m, env, h, P, at_, t1, k⟩ => ⟨m, env, h, _, at_, t1, fun c h1 p1 m1 H1 E1 R1 => ?_⟩⟩
  cases c with
  | false =>
    rw [if_neg Bool.false_ne_true] at p1 ⊢
    exact ⟨m1, env, h1, P, at_.ex E1 R1, p1, fun c2 h2 p2 m2 H2 E2 R2 => k c2 h2 p2 m2 H2 (E1.trans E2) R2⟩
  | true =>
    rw [if_pos rfl] at p1 ⊢
    exact k _ _ p1 m1 H1 E1 R1
theorem uf (ha : LTe X a t) : LTe X (.UnaryOp .Not a pos) (cY t) :=
  ⟨PT.imp (pt_not ha.pt) fun σ H Q ⟨m, env, h, P, at_, t1, k⟩ => ⟨m, env, h, _, at_, t1, fun c h1 p1 m1 H1 E1 R1 => k _ _ p1 m1 H1 E1 R1⟩⟩
theorem le_if (hc : LTe X c t) (ha : LE X a ta) (hb : LE X b tb) : LE X (.IfExp c a b pos) (lIf t ta tb) := by
  refine ⟨PE.imp (pe_ifExp hc.pt ha.pe hb.pe) fun σ H Q ⟨m, env, h, P, at_, t1, k⟩ => ⟨m, env, h, _, at_, t1, fun c h1 p1 m1 H1 E1 R1 => ?_⟩⟩
  cases c with
  | true =>
    rw [if_pos rfl] at p1 ⊢
    exact ⟨m1, env, h1, P, at_.ex E1 R1, p1, k.ex E1⟩
  | false =>
    rw [if_neg Bool.false_ne_true] at p1 ⊢
    exact ⟨m1, env, h1, P, at_.ex E1 R1, p1, k.ex E1⟩
theorem jH {op} (ha : LE X a ta) : LE X (.BoolOp op [a] pos) ta := ⟨pe_one ha.pe⟩
theorem gM (ha : LE X a ta) (hb : LE X (.BoolOp .And (b :: rest) pos) tb) : LE X (.BoolOp .And (a :: b :: rest) pos) (bA ta tb) := by
  refine ⟨PE.imp (pe_and ha.pe hb.pe) fun σ H Q ⟨m, env, h, P, at_, t1, k⟩ => ⟨m, env, h, _, at_, t1, fun v h1 p1 m1 H1 x E1 R1 r1 => ?_⟩⟩
  cases v with
  | bl c =>
    rw [aC] at r1
    refine ⟨c, r1, ?_⟩
    cases c with
    | true =>
      exact ⟨m1, env, h1, P, at_.ex E1 R1, p1, k.ex E1⟩
    | false => exact k _ _ p1 m1 H1 _ E1 R1 (by rw [aC])
  | _ => exact p1.elim
theorem le_or (ha : LE X a ta) (hb : LE X (.BoolOp .Or (b :: rest) pos) tb) : LE X (.BoolOp .Or (a :: b :: rest) pos) (gD ta tb) := by
  refine ⟨PE.imp (pe_or ha.pe hb.pe) fun σ H Q ⟨m, env, h, P, at_, t1, k⟩ => ⟨m, env, h, _, at_, t1, fun v h1 p1 m1 H1 x E1 R1 r1 => ?_⟩⟩
  cases v with
  | bl c =>
    rw [aC] at r1
    refine ⟨c, r1, ?_⟩
    cases c with
    | false =>
      exact ⟨m1, env, h1, P, at_.ex E1 R1, p1, k.ex E1⟩
    | true => exact k _ _ p1 m1 H1 _ E1 R1 (by rw [aC])
  | _ => exact p1.elim
theorem le_not (ha : LE X a ta) : LE X (.UnaryOp .Not a pos) (cM ta) := by
  refine ⟨PE.imp (pe_not ha.pe) fun σ H Q ⟨m, env, h, P, at_, t1, k⟩ => ⟨m, env, h, _, at_, t1, fun v h1 p1 m1 H1 x E1 R1 r1 => ?_⟩⟩
  cases v with
  | bl c =>
    rw [aC] at r1
    exact ⟨c, r1, k _ _ p1 m1 H1 _ E1 R1 (by rw [aC])⟩
  | _ => exact p1.elim
end
def au : LA := fun _ h P => P [] h
def aj (ta : LT) (tr : LA) : LA := fun env h P => ta env h fun x h1 => tr env h1 fun xs h2 => P (x :: xs) h2
def aU (t : LA) : LT := fun env h P => t env h fun xs h1 => xs.length ≤ sizeLine ∧ P (.tup xs) h1
def bM (t : LA) : LT := fun env h P => t env h fun xs h1 => xs.length ≤ sizeLine ∧ P (.ref h1.length) (h1 ++ [.lst xs])
section
variable {X : Cx} {a b c e : Expr} {es : List Expr} {ta tb : LT} {t : LA} {pos : Pos}
theorem az : LAs X [] au := ⟨PA.imp pa_nil fun σ H Q ⟨m, env, h, P, at_, t1, k⟩ => k _ _ t1 m H [] .refl at_.hp .nil⟩
theorem ak (ha : LE X e ta) (hr : LAs X es t) (hs : starEach (e :: es) X.env = (false, eval e X.env) :: starEach es X.env := by rfl) : LAs X (e :: es) (aj ta t) :=
  ⟨PA.imp (pa_cons ha.pe hr.pa hs) fun σ H Q ⟨m, env, h, P, at_, t1, k⟩ => ⟨m, env, h, _, at_, t1, fun x h1 p1 m1 H1 v E1 R1 r1 =>
    ⟨m1, env, h1, _, at_.ex E1 R1, p1, fun xs h2 p2 m2 H2 vs E2 R2 r2 => k _ _ p2 m2 H2 _ (E1.trans E2) R2 (.cons (aC.ex E2 _ _ r1) r2)⟩⟩⟩
theorem bO {k1} (ht : LAs X es t) : LE X (.Tuple es k1 pos) (aU t) :=
  ⟨PE.imp (pe_tup ht.pa) fun σ H Q ⟨m, env, h, P, at_, t1, k⟩ => ⟨m, env, h, _, at_, t1, fun xs h1 p1 m1 H1 vs E1 R1 r1 =>
    ⟨by rw [← r1.length]; exact p1.1, fun p hp => (k.ex E1).tup R1 p1.2 r1 hp⟩⟩⟩
theorem fD (ht : LAs X es t) : LE X (.List es pos) (bM t) :=
  ⟨PE.imp (pe_lst ht.pa) fun σ H Q ⟨m, env, h, P, at_, t1, k⟩ => ⟨m, env, h, _, at_, t1, fun xs h1 p1 m1 H1 vs E1 R1 r1 =>
    ⟨by rw [← r1.length]; exact p1.1, fun p hp => (k.ex E1).lst R1 p1.2 r1 hp⟩⟩⟩
end
abbrev LC := List EV → EH → EK → Prop
def LCl (K : PySem.W.Frag) (r : List V → Hp → VK → Prop) (c : LC) : Prop :=
  ∀ (m : Nat → Addr) (h : EH) (H : Hp) (vs : List EV) (xs : List V) (P : EK) (Q : VK), cC K m h H → aO K m h.length H vs xs → c vs h P → Kon K m h.length H P Q → r xs H Q
def nH (X : Cx) (f : Value) (c : LC) : Prop := ∃ r, CallR X f r ∧ LCl X.K r c
def lCB (c : LC) (t : LA) : LT := fun env h P => t env h fun vs h1 => c vs h1 P
theorem CallR.or {X : Cx} {f : Value} {r r' : List V → Hp → VK → Prop} (a : CallR X f r) (b : CallR X f r') : CallR X f (fun xs H Q => r xs H Q ∨ r' xs H Q) := by
  intro pins s σ H xs us Q I rv q
  rcases q with q | q
  · exact a pins s σ H xs us Q I rv q
  · exact b pins s σ H xs us Q I rv q
theorem aO.one_inv {K : PySem.W.Frag} {m : Nat → Addr} {n : Nat} {H : Hp} {x : EV} {vs : List V} (r : aO K m n H [x] vs) : ∃ v, vs = [v] ∧ aC K m n H x v := by
  rw [aO] at r
  obtain ⟨v, l, rfl, a, b⟩ := r
  rw [aO] at b
  subst b
  exact ⟨v, rfl, a⟩
theorem aO.two_inv {K : PySem.W.Frag} {m : Nat → Addr} {n : Nat} {H : Hp} {x y : EV} {vs : List V} (r : aO K m n H [x, y] vs) : ∃ v w, vs = [v, w] ∧ aC K m n H x v ∧ aC K m n H y w := by
  rw [aO] at r
  obtain ⟨v, l, rfl, a, b⟩ := r
  obtain ⟨w, rfl, c⟩ := b.one_inv
  exact ⟨v, w, rfl, a, c⟩
section
variable {X : Cx} {e : Expr} {es : List Expr} {c : LC} {t : LA} {pos p : Pos} {x : Str} {id T : String}
theorem up_cb {K : PySem.W.Frag} {r : List V → Hp → VK → Prop} (s : LCl K r c) (σ : L2.St) (H : Hp) (Q : VK) (q : up K (lCB c t) σ H Q) : tCB r (upA K t) σ H Q := by
  obtain ⟨m, env, h, P, at_, t1, k⟩ := q
  exact ⟨m, env, h, _, at_, t1, fun vs h1 p1 m1 H1 xs E1 R1 r1 => s _ _ _ _ _ _ _ R1 r1 p1 (k.ex E1)⟩
theorem bj (hc : nH X (.builtin id) c) (hg : Gl X x) (hm : X.mg x = none) (hv : bootBuiltins x = some (.builtin id)) (ha : LAs X (e :: es) t) (hn : x ≠ "__name__" := by decide) (hdb : (x == ("__debug__" : Str)) = false := by decide)
    (he : starEach (e :: es) X.env = (false, eval e X.env) :: starEach es X.env := by rfl) (hpl : (backTo pos (starEach es X.env)).any (·.1) = false := by rfl) : LE X (.Call (.Name x p) (e :: es) [] pos) (lCB c t) := by
  obtain ⟨r, hr, s⟩ := hc
  exact ⟨PE.imp (pe_callB hr hg hm hv ha.pa hn hdb he hpl) (up_cb s)⟩
theorem fJ (hc : nH X (.type T) c) (hg : Gl X x) (hm : X.mg x = none) (hv : bootBuiltins x = some (.type T)) (ha : LAs X (e :: es) t) (hn : x ≠ "__name__" := by decide) (hdb : (x == ("__debug__" : Str)) = false := by decide)
    (he : starEach (e :: es) X.env = (false, eval e X.env) :: starEach es X.env := by rfl) (hpl : (backTo pos (starEach es X.env)).any (·.1) = false := by rfl) : LE X (.Call (.Name x p) (e :: es) [] pos) (lCB c t) := by
  obtain ⟨r, hr, s⟩ := hc
  exact ⟨PE.imp (pe_callTy hr hg hm hv ha.pa hn hdb he hpl) (up_cb s)⟩
end
abbrev LM := EV → List EV → EH → EK → Prop
def LMl (K : PySem.W.Frag) (T : String) (r : V → List V → Hp → VK → Prop) (c : LM) : Prop :=
  ∀ (m : Nat → Addr) (h : EH) (H : Hp) (v : EV) (x : V) (vs : List EV) (xs : List V) (P : EK) (Q : VK), cC K m h H → aC K m h.length H v x → aO K m h.length H vs xs → c v vs h P → Kon K m h.length H P Q → r x xs H Q
def isTy (T : String) (v : EV) (h : EH) : Prop := match v with
  | .str _ => T = "str"
  | .ref r => match h[r]? with
    | some (.lst _) => T = "list"
    | some (.dic _) => T = "dict"
    | _ => False
  | _ => False
def lBM (T : String) (c : LM) (to : LT) (t : LA) : LT := fun env h P => to env h fun x h1 => isTy T x h1 ∧ t env h1 fun vs h2 => c x vs h2 P
theorem isTy_sim {K : PySem.W.Frag} {m : Nat → Addr} {H : Hp} {h : EH} {T : String} {v : EV} {x : V} (R : cC K m h H) (r : aC K m h.length H v x) (q : isTy T v h) : tyV K T x H := by
  unfold isTy at q
  split at q
  · rw [aC] at r; subst r; exact q
  · rw [aC] at r
    obtain ⟨_, rfl⟩ := r
    split at q
    · rename_i e
      obtain ⟨vs, a, _⟩ := R.obj _ _ e
      exact .inl ⟨q, vs, SqL.of a⟩
    · rename_i e
      obtain ⟨vs, a, _⟩ := R.obj _ _ e
      exact .inr (.inr (.inl ⟨q, .inl ⟨vs, a⟩⟩))
    · exact q.elim
  · exact q.elim
section
variable {X : Cx} {o e : Expr} {es : List Expr} {to : LT} {t : LA} {name : Str} {apos cpos : Pos} {T id : String} {r : V → List V → Hp → VK → Prop} {c : LM}
theorem le_bm (pa : PlainAttrs T) (slot : Slot T name id) (hty : typeOf (.builtin id) = pure (.type "method_descriptor")) (hm : MtR X id r) (s : LMl X.K T r c) (ho : LE X o to) (ha : LAs X (e :: es) t)
    (hbase : attributeBase o name X.env (eval o X.env) = eval o X.env := by rfl)
    (hfew : ((backTo cpos (starEach (e :: es) X.env)).all (fun x => !x.1) && (backToKw cpos (keywordEach [] X.env)).all (fun x => x.1.isSome)
      && decide ((e :: es).length + ([] : List Keyword).length + (if ([] : List Keyword).isEmpty then 0 else 1) < 30)) = true := by rfl)
    (hline : (apos.endLine == cpos.line) = true := by rfl) (hs : starEach (e :: es) X.env = (false, eval e X.env) :: starEach es X.env := by rfl) (hplain : (backTo cpos (starEach es X.env)).any (·.1) = false := by rfl) :
    LE X (.Call (.Attribute o name apos) (e :: es) [] cpos) (lBM T c to t) :=
  ⟨PE.imp (pe_bm pa slot hty hm ho.pe ha.pa hbase hfew hline hs hplain) fun σ H Q ⟨m, env, h, P, at_, t1, k⟩ => ⟨m, env, h, _, at_, t1, fun x h1 p1 m1 H1 v E1 R1 r1 =>
    ⟨isTy_sim R1 r1 p1.1, m1, env, h1, _, at_.ex E1 R1, p1.2, fun vs h2 p2 m2 H2 xs E2 R2 r2 => s _ _ _ _ _ _ _ _ _ R2 (aC.ex E2 _ _ r1) r2 p2 (k.ex (E1.trans E2))⟩⟩⟩
theorem le_bm0 (pa : PlainAttrs T) (slot : Slot T name id) (hty : typeOf (.builtin id) = pure (.type "method_descriptor")) (hm : MtR X id r) (s : LMl X.K T r c) (ho : LE X o to)
    (hbase : attributeBase o name X.env (eval o X.env) = eval o X.env := by rfl) (hline : (apos.endLine == cpos.line) = true := by rfl) : LE X (.Call (.Attribute o name apos) [] [] cpos) (lBM T c to au) :=
  ⟨PE.imp (pe_bm0 pa slot hty hm ho.pe hbase hline) fun σ H Q ⟨m, env, h, P, at_, t1, k⟩ => ⟨m, env, h, _, at_, t1, fun x h1 p1 m1 H1 v E1 R1 r1 =>
    ⟨isTy_sim R1 r1 p1.1, s _ _ _ _ _ _ _ _ _ R1 r1 .nil p1.2 (k.ex E1)⟩⟩⟩
end
def LIxR (X : Cx) (o : LO) : Prop := ∃ r, IxR X r ∧ LOp X.K r o
theorem cD {X : Cx} {a b : Expr} {ta tb : LT} {o : LO} {pos : Pos} (hr : LIxR X o) (ha : LE X a ta) (hb : LE X b tb) (hs : PlainIx b := by exact fun _ _ => rfl) : LE X (.Subscript a b pos) (lOp o ta tb) := by
  obtain ⟨r, h, s⟩ := hr
  exact ⟨PE.imp (pe_ix h ha.pe hb.pe hs) (up_bin s)⟩
def ixE : LO := fun v w h P => match w with
  | .int i => match v with
    | .tup xs => match atI xs i with
      | some x => P x h
      | none => False
    | .ktup xs => match atI xs i with
      | some x => P x h
      | none => False
    | .str s => s.length ≤ sizeLine ∧ match atI s i with
      | some x => P (.str [x]) h
      | none => False
    | .ref r => match h[r]? with
      | some (.lst xs) => match atI xs i with
        | some x => P x h
        | none => False
      | some (.frz xs) => match atI xs i with
        | some x => P x h
        | none => False
      | _ => False
    | _ => False
  | _ => False
theorem aO.atI {K : PySem.W.Frag} {m : Nat → Addr} {n : Nat} {H : Hp} {es : List EV} {vs : List V} {i : Int} {x : EV} (r : aO K m n H es vs) (e : atI es i = some x) : ∃ v, L2.atI vs i = some v ∧ aC K m n H x v := by
  unfold L2.atI at e ⊢
  rw [← r.length]
  cases q : ixN es.length i with
  | none => rw [q] at e; cases e
  | some j =>
    rw [q] at e
    exact r.at e
theorem lix {X : Cx} : LIxR X ixE := by
  refine ⟨_, ix_seq, ?_⟩
  intro m h H v w x y P Q R rx ry q k
  unfold ixE at q
  split at q
  · rw [aC] at ry
    subst ry
    split at q
    · rw [aC] at rx
      obtain ⟨a, vs, rfl, hs, r⟩ := rx
      split at q
      · rename_i e
        obtain ⟨u, a1, r1⟩ := r.atI e
        exact .inr (.inl ⟨_, _, _, u, rfl, rfl, SqT.of hs, a1, k.same R q r1⟩)
      · exact q.elim
    · rw [aC] at rx
      obtain ⟨a, vs, rfl, hs, r⟩ := rx
      split at q
      · rename_i e
        obtain ⟨u, a1, r1⟩ := r.atI e
        exact .inr (.inl ⟨_, _, _, u, rfl, rfl, hs, a1, k.same R q r1⟩)
      · exact q.elim
    · rw [aC] at rx
      subst rx
      obtain ⟨q1, q⟩ := q
      split at q
      · rename_i e
        exact .inr (.inr ⟨_, _, _, rfl, rfl, by rw [S_len]; exact q1, by simpa using e, k.same R q (by rw [aC])⟩)
      · exact q.elim
    · rw [aC] at rx
      obtain ⟨_, rfl⟩ := rx
      split at q
      · rename_i e
        obtain ⟨vs, a, r⟩ := R.obj _ _ e
        split at q
        · rename_i e
          obtain ⟨u, a1, r1⟩ := r.atI e
          exact .inl ⟨_, _, _, u, rfl, rfl, SqL.of a, a1, k.same R q r1⟩
        · exact q.elim
      · rename_i e
        obtain ⟨vs, a, r⟩ := R.obj _ _ e
        split at q
        · rename_i e
          obtain ⟨u, a1, r1⟩ := r.atI e
          exact .inl ⟨_, _, _, u, rfl, rfl, a.sql, a1, k.same R q r1⟩
        · exact q.elim
      · exact q.elim
    · exact q.elim
  · exact q.elim
abbrev LO_ := En → EH → (Option Int → EH → Prop) → Prop
def aV : Option LT → LO_
  | none => fun _ h P => P none h
  | some t => fun env h P => t env h fun v h1 => match v with
    | .int i => P (some i) h1
    | _ => False
def upO (K : PySem.W.Frag) (t : LO_) : L2.St → Hp → (Option Int → Hp → Prop) → Prop := fun σ H Q => ∃ m env h P, At K env h m σ H ∧ t env h P ∧
  ∀ b h', P b h' → ∀ (m' : Nat → Addr) (H' : Hp), Ex K m h.length H m' h'.length H' → cC K m' h' H' → Q b H'
def LPo (X : Cx) (e : Option Expr) (t : LO_) : Prop := ∃ u, PO X e u ∧ ∀ σ H Q, upO X.K t σ H Q → u σ H Q
theorem eZ {X : Cx} : LPo X none (aV none) := ⟨_, po_none, fun σ H Q ⟨m, env, h, P, at_, t1, k⟩ => k _ _ t1 m H .refl at_.hp⟩
theorem fB {X : Cx} {e : Expr} {t : LT} (he : LE X e t) : LPo X (some e) (aV (some t)) := by
  refine ⟨_, po_some he.pe, fun σ H Q ⟨m, env, h, P, at_, t1, k⟩ => ⟨m, env, h, _, at_, t1, fun v h1 p1 m1 H1 x E1 R1 r1 => ?_⟩⟩
  cases v with
  | int i =>
    rw [aC] at r1
    exact ⟨i, r1, k _ _ p1 m1 H1 E1 R1⟩
  | _ => exact p1.elim
def cut {α : Type} (xs : List α) (lo hi : Option Int) : List α := (xs.drop (HT.sIx xs.length 0 lo)).take (HT.sIx xs.length xs.length hi - HT.sIx xs.length 0 lo)
abbrev LSlc := EV → Option Int → Option Int → EH → EK → Prop
def slE : LSlc := fun v lo hi h P => match v with
  | .tup xs => P (.tup (cut xs lo hi)) h
  | .str s => s.length ≤ sizeLine ∧ P (.str (cut s lo hi)) h
  | .ref r => match h[r]? with
    | some (.lst xs) => P (.ref h.length) (h ++ [.lst (cut xs lo hi)])
    | some (.frz xs) => P (.ref h.length) (h ++ [.lst (cut xs lo hi)])
    | _ => False
  | _ => False
def lSl (to : LT) (tl th : LO_) : LT := fun env h P => to env h fun x h1 => tl env h1 fun l h2 => th env h2 fun u h3 => slE x l u h3 P
theorem aO.cut {K : PySem.W.Frag} {m : Nat → Addr} {n : Nat} {H : Hp} {es : List EV} {vs : List V} {lo hi : Option Int} (r : aO K m n H es vs) : aO K m n H (cut es lo hi) (cutV vs lo hi) := by
  unfold Y.cut cutV
  rw [← r.length]
  exact aO.take _ (aO.drop _ r)
theorem cut_S (s : List Nat) (lo hi : Option Int) : cutS (S s) lo hi = S (cut s lo hi) := by
  unfold cutS Y.cut
  rw [S_len]
theorem cut_all {α : Type} {xs : List α} {lo hi : Option Int} (h : HT.sIx xs.length 0 lo = 0 ∧ HT.sIx xs.length xs.length hi = xs.length) : cut xs lo hi = xs := by
  unfold cut
  rw [h.1, h.2]
  simp
theorem fj {X : Cx} {e : Expr} {lo hi : Option Expr} {to : LT} {tl th : LO_} {p2 pos : Pos} (he : LE X e to) (hl : LPo X lo tl) (hu : LPo X hi th) : LE X (.Subscript e (.Slice lo hi none p2) pos) (lSl to tl th) := by
  obtain ⟨u1, h1, s1⟩ := hl
  obtain ⟨u2, h2, s2⟩ := hu
  refine ⟨PE.imp (pe_slice (SlR.or sl_list (SlR.or sl_tupA sl_str)) he.pe h1 h2) fun σ H Q ⟨m, env, h, P, at_, t1, k⟩ => ⟨m, env, h, _, at_, t1, fun v h1 p1 m1 H1 x E1 R1 r1 => s1 _ _ _ ⟨m1, env, h1, _, at_.ex E1 R1, p1, fun l h2 p2 m2 H2 E2 R2 =>
    s2 _ _ _ ⟨m2, env, h2, _, (at_.ex E1 R1).ex E2 R2, p2, fun u h3 p3 m3 H3 E3 R3 => ?_⟩⟩⟩⟩
  have r3 := aC.ex (E2.trans E3) _ _ r1
  have k3 := k.ex ((E1.trans E2).trans E3)
  unfold slE at p3
  split at p3
  · rename_i xs
    rw [aC] at r3
    obtain ⟨a, vs, rfl, hs, r⟩ := r3
    refine .inr (.inl ⟨a, vs, rfl, SqT.of hs, fun w => ?_, fun _ p hp => k3.tup R3 p3 r.cut hp⟩)
    rw [← r.length] at w
    rw [cut_all w] at p3
    exact k3.same R3 p3 (by rw [aC]; exact ⟨a, vs, rfl, hs, r⟩)
  · rw [aC] at r3
    subst r3
    exact .inr (.inr ⟨_, rfl, by rw [S_len]; exact p3.1, by rw [cut_S]; exact k3.same R3 p3.2 (by rw [aC])⟩)
  · rw [aC] at r3
    obtain ⟨_, rfl⟩ := r3
    split at p3
    · rename_i e
      obtain ⟨vs, a, r⟩ := R3.obj _ _ e
      exact .inl ⟨_, _, rfl, SqL.of a, fun p hp => k3.lst R3 p3 r.cut hp⟩
    · rename_i e
      obtain ⟨vs, a, r⟩ := R3.obj _ _ e
      exact .inl ⟨_, _, rfl, a.sql, fun p hp => k3.lst R3 p3 r.cut hp⟩
    · exact p3.elim
  · exact p3.elim
end Y
namespace Y
open PySem PySem.Spec PyProof.Rows L2
def aQ : LS := fun D env h => D.nx env h
def aD (t u : LS) : LS := fun D env h => t { D with nx := u D } env h
def bY (t : LT) : LS := fun D env h => t env h fun _ h1 => D.nx env h1
def aM (t : LT) : LS := fun D env h => t env h D.rt
def dO : LS := fun D _ h => D.rt .non h
def aR (c : LTt) (t u : LS) : LS := fun D env h => c env h fun b h1 => if b = true then t D env h1 else u D env h1
section
variable {X : Cx} {st : Stmt} {rest a b : List Stmt} {t u : LS} {e c : Expr} {te : LT} {tc : LTt} {pos : Pos}
theorem bF : LSs X [] aQ := ⟨PSs.imp pss_nil fun D σ H ⟨m, env, h, P, at_, t1, k⟩ => k.nx _ _ t1 m H σ .refl at_⟩
theorem aF (h1 : LSt X st t) (h2 : LSs X rest u) : LSs X (st :: rest) (aD t u) := by
  refine ⟨PSs.imp (pss_cons h1.ps h2.pss) fun D σ H ⟨m, env, h, P, at_, t1, k⟩ => ⟨m, env, h, { P with nx := u P }, at_, t1, ⟨?_, k.rt, k.bk, k.ct⟩⟩⟩
  intro env' h' p m' H' σ' E a
  exact ⟨m', env', h', P, a, p, k.ex E⟩
theorem aJ (h1 : LSt X st t) : LSs X [st] t := ⟨pss_one h1.ps⟩
theorem mW (he : LE X e te) (hs : swapsWith e none pos.line X.env = pure false := by rfl) : LSt X (.Expr e pos) (bY te) :=
  ⟨PS.imp (ps_expr he.pe hs) fun D σ H ⟨m, env, h, P, at_, t1, k⟩ => ⟨m, env, h, _, at_, t1, fun v h1 p1 m1 H1 x E1 R1 r1 => k.nx _ _ p1 m1 H1 σ E1 (at_.ex E1 R1)⟩⟩
theorem aW (he : LE X e te) : LSt X (.Return (some e) pos) (aM te) :=
  ⟨PS.imp (ps_ret he.pe) fun D σ H ⟨m, env, h, P, at_, t1, k⟩ => ⟨m, env, h, _, at_, t1, k.rt⟩⟩
theorem cH (hc : LTe X c tc) (ha : LSs X a t) (hb : LSs X b u) : LSt X (.If c a b pos) (aR tc t u) := by
  refine ⟨PS.imp (ps_if hc.pt ha.pss hb.pss) fun D σ H ⟨m, env, h, P, at_, t1, k⟩ => ⟨m, env, h, _, at_, t1, fun c h1 p1 m1 H1 E1 R1 => ?_⟩⟩
  cases c with
  | true =>
    rw [if_pos rfl] at p1 ⊢
    exact ⟨m1, env, h1, P, at_.ex E1 R1, p1, k.ex E1⟩
  | false =>
    rw [if_neg Bool.false_ne_true] at p1 ⊢
    exact ⟨m1, env, h1, P, at_.ex E1 R1, p1, k.ex E1⟩
def lNever : LS := fun _ _ _ => False
theorem ls_never : LSt X st lNever := ⟨PS.imp ps_never fun D σ H ⟨m, env, h, P, at_, t1, k⟩ => t1⟩
end
inductive Pat where
  | nm (i : Nat)
  | tp (ps : List Pat)
mutual
def Pat.bind (h : EH) : Pat → EV → En → Option En
  | .nm i, v, env => some (env.set i (some v))
  | .tp ps, .tup vs, env => Pat.binds h ps vs env
  | .tp ps, .ref r, env => match h[r]? with
    | some (.lst vs) => Pat.binds h ps vs env
    | _ => none
  | .tp _, _, _ => none
def Pat.binds (h : EH) : List Pat → List EV → En → Option En
  | [], [], env => some env
  | p :: ps, v :: vs, env => match Pat.bind h p v env with
    | some e => Pat.binds h ps vs e
    | none => none
  | _, _, _ => none
end
def gSq (K : PySem.W.Frag) (n : Nat) (t : TGs) : TG := fun v σ H Q => gTup K n t v σ H Q ∨ gLst K n t v σ H Q
theorem pg_sq {X : Cx} {es : List Expr} {k : Nat} {t : TGs} {n : Nat} {pos : Pos} (hc : X.calm = true) (h : PGs X es t)
    (hn : (assignEach es X.env).length = n := by rfl) (hst : (assignEach es X.env).findIdx? (·.1) = none := by rfl) : PG X (.Tuple es k pos) (gSq X.K n t) :=
  ⟨fun pins s σ H v u Q I r hw => hw.elim (fun w => (pg_tup (k := k) (pos := pos) hc h hn hst).run pins s σ H v u Q I r w) fun w => (pg_lst (k := k) (pos := pos) hc h hn hst).run pins s σ H v u Q I r w⟩
mutual
def gP (K : PySem.W.Frag) : Pat → TG
  | .nm i => gName i
  | .tp ps => gSq K ps.length (gPs K ps)
def gPs (K : PySem.W.Frag) : List Pat → TGs
  | [] => gNil
  | p :: ps => gCons (gP K p) (gPs K ps)
end
mutual
def Pat.slots : Pat → List Nat
  | .nm i => [i]
  | .tp ps => Pat.slotsAll ps
def Pat.slotsAll : List Pat → List Nat
  | [] => []
  | p :: ps => Pat.slots p ++ Pat.slotsAll ps
end
section
variable {K : PySem.W.Frag} {m : Nat → Addr} {n : Nat} {H : Hp} {h : EH}
theorem qb.set {env : En} {σ : L2.St} {v : EV} {x : V} (R : qb K m n H env σ) (r : aC K m n H v x) (i : Nat) : qb K m n H (env.set i (some v)) (σ.set i (some x)) := by
  refine ⟨by simpa using R.1, fun j w hj => ?_⟩
  by_cases e : i = j
  · subst e
    have hl : i < env.length := by
      have := (List.getElem?_eq_some_iff.mp hj).1
      simpa using this
    rw [List.getElem?_set_self hl] at hj
    cases hj
    exact ⟨x, List.getElem?_set_self (by rw [← R.1]; exact hl), r⟩
  · rw [List.getElem?_set_ne e] at hj
    obtain ⟨y, a, b⟩ := R.2 j w hj
    exact ⟨y, by rw [List.getElem?_set_ne e]; exact a, b⟩
mutual
theorem Pat.sim (RH : cC K m h H) : ∀ (p : Pat) (v : EV) (x : V) (env env' : En) (σ : L2.St), qb K m h.length H env σ → aC K m h.length H v x → Pat.bind h p v env = some env' →
    ∃ σ', (∀ Q, Q σ' H → gP K p x σ H Q) ∧ qb K m h.length H env' σ' ∧ (∀ i, i ∉ Pat.slots p → σ'[i]? = σ[i]?) ∧ σ'.length = σ.length
  | .nm i, v, x, env, env', σ, R, r, e => by
    rw [Pat.bind] at e
    cases e
    refine ⟨σ.set i (some x), fun Q q => by rw [gP]; exact q, R.set r i, fun j hj => ?_, by simp⟩
    rw [Pat.slots] at hj
    exact List.getElem?_set_ne (fun z => hj (by simp [z]))
  | .tp ps, .tup vs, x, env, env', σ, R, r, e => by
    rw [Pat.bind] at e
    rw [aC] at r
    obtain ⟨a, xs, rfl, hs, r⟩ := r
    obtain ⟨σ', f, R', s, l, z⟩ := Pat.sims RH ps vs xs env env' σ R r e
    refine ⟨σ', fun Q q => ?_, R', fun j hj => s j (by rw [Pat.slots] at hj; exact hj), z⟩
    rw [gP]
    exact .inl ⟨a, xs, rfl, SqT.of hs, l, f Q q⟩
  | .tp ps, .non, x, env, env', σ, R, r, e => by simp [Pat.bind] at e
  | .tp ps, .ktup _, x, env, env', σ, R, r, e => by simp [Pat.bind] at e
  | .tp ps, .bl _, x, env, env', σ, R, r, e => by simp [Pat.bind] at e
  | .tp ps, .int _, x, env, env', σ, R, r, e => by simp [Pat.bind] at e
  | .tp ps, .str _, x, env, env', σ, R, r, e => by simp [Pat.bind] at e
  | .tp ps, .ref q, x, env, env', σ, R, r, e => by
    rw [Pat.bind] at e
    rw [aC] at r
    obtain ⟨_, rfl⟩ := r
    split at e
    · rename_i vs e1
      obtain ⟨xs, a, r2⟩ := RH.obj _ _ e1
      obtain ⟨σ', f, R', s, l, z⟩ := Pat.sims RH ps vs xs env env' σ R r2 e
      refine ⟨σ', fun Q q => ?_, R', fun j hj => s j (by rw [Pat.slots] at hj; exact hj), z⟩
      rw [gP]
      exact .inr ⟨_, xs, rfl, SqL.of a, l, f Q q⟩
    · cases e
  | .tp ps, .adr _, x, env, env', σ, R, r, e => by simp [Pat.bind] at e
  | .tp ps, .ty _, x, env, env', σ, R, r, e => by simp [Pat.bind] at e
theorem Pat.sims (RH : cC K m h H) : ∀ (ps : List Pat) (vs : List EV) (xs : List V) (env env' : En) (σ : L2.St), qb K m h.length H env σ → aO K m h.length H vs xs → Pat.binds h ps vs env = some env' →
    ∃ σ', (∀ Q, Q σ' H → gPs K ps xs σ H Q) ∧ qb K m h.length H env' σ' ∧ (∀ i, i ∉ Pat.slotsAll ps → σ'[i]? = σ[i]?) ∧ xs.length = ps.length ∧ σ'.length = σ.length
  | [], [], xs, env, env', σ, R, r, e => by
    rw [Pat.binds] at e
    cases e
    rw [aO] at r
    subst r
    exact ⟨σ, fun Q q => by rw [gPs]; exact ⟨rfl, q⟩, R, fun _ _ => rfl, rfl, rfl⟩
  | [], _ :: _, xs, env, env', σ, R, r, e => by simp [Pat.binds] at e
  | _ :: _, [], xs, env, env', σ, R, r, e => by simp [Pat.binds] at e
  | p :: ps, v :: vs, xs, env, env', σ, R, r, e => by
    rw [Pat.binds] at e
    rw [aO] at r
    obtain ⟨x, l, rfl, r1, r2⟩ := r
    split at e
    · rename_i env1 e1
      obtain ⟨σ1, f1, R1, s1, z1⟩ := Pat.sim RH p v x env env1 σ R r1 e1
      obtain ⟨σ2, f2, R2, s2, l2, z2⟩ := Pat.sims RH ps vs l env1 env' σ1 R1 r2 e
      refine ⟨σ2, fun Q q => ?_, R2, fun j hj => ?_, by simp [l2], z2.trans z1⟩
      · rw [gPs]
        exact ⟨x, l, rfl, f1 _ (f2 Q q)⟩
      · rw [Pat.slotsAll] at hj
        rw [s2 j (fun z => hj (List.mem_append_right _ z)), s1 j (fun z => hj (List.mem_append_left _ z))]
    · cases e
end
end
structure LG (X : Cx) (tg : Expr) (p : Pat) : Prop where
  pg : PG X tg (gP X.K p)
structure LGs (X : Cx) (ts : List Expr) (ps : List Pat) : Prop where
  pgs : PGs X ts (gPs X.K ps)
section
variable {X : Cx} {pos : Pos}
theorem cO (i : Nat) {x : Str} (hN : X.N.Nodup) (hi : X.N[i]? = some x := by rfl) (hx : Loc X.env.scope x := by first | exact Or.inl rfl | exact Or.inr rfl) (hf : X.fn x = true ∨ X.env.scope.names.lookup x = some .local := by first | exact .inl rfl | exact .inr rfl) : LG X (.Name x pos) (.nm i) :=
  ⟨by rw [gP]; exact pg_name hN hi hx hf⟩
theorem lgs_nil : LGs X [] [] := ⟨by rw [gPs]; exact pgs_nil⟩
theorem kh {e : Expr} {es : List Expr} {p : Pat} {ps : List Pat} (h1 : LG X e p) (h2 : LGs X es ps) (hs : (assignEach (e :: es) X.env).map (·.2) = assign e X.env :: (assignEach es X.env).map (·.2) := by rfl) : LGs X (e :: es) (p :: ps) :=
  ⟨by rw [gPs]; exact pgs_cons h1.pg h2.pgs hs⟩
theorem lg_tup {es : List Expr} {k : Nat} {ps : List Pat} (hc : X.calm = true) (h : LGs X es ps) (hn : (assignEach es X.env).length = ps.length := by rfl) (hst : (assignEach es X.env).findIdx? (·.1) = none := by rfl) : LG X (.Tuple es k pos) (.tp ps) :=
  ⟨by rw [gP]; exact pg_sq hc h.pgs hn hst⟩
end
def gq (h : EH) (p : Pat) (v : EV) (env : En) (P : En → Prop) : Prop := match Pat.bind h p v env with
  | some e => P e
  | none => False
theorem bind_sim {K : PySem.W.Frag} {m : Nat → Addr} {h : EH} {H : Hp} {p : Pat} {v : EV} {x : V} {env : En} {σ : L2.St} {P : En → Prop} (RH : cC K m h H) (R : qb K m h.length H env σ) (r : aC K m h.length H v x) (q : gq h p v env P) :
    ∃ env' σ', P env' ∧ (∀ Q, Q σ' H → gP K p x σ H Q) ∧ qb K m h.length H env' σ' ∧ (∀ i, i ∉ Pat.slots p → σ'[i]? = σ[i]?) ∧ σ'.length = σ.length := by
  unfold gq at q
  split at q
  · rename_i env' e
    obtain ⟨σ', f, R', s⟩ := Pat.sim RH p v x env env' σ R r e
    exact ⟨env', σ', q, f, R', s⟩
  · exact q.elim
def fQ (te : LT) (p : Pat) : LS := fun D env h => te env h fun v h1 => gq h1 p v env fun env' => D.nx env' h1
def aY (te : LT) (i : Nat) : LS := fun D env h => te env h fun v h1 => D.nx (env.set i (some v)) h1
section
variable {X : Cx} {pos : Pos}
theorem ls_asg {tg e : Expr} {te : LT} {p : Pat} (he : LE X e te) (hg : LG X tg p) (hs : swapsWithSole [tg] e pos.line X.env = pure false := by rfl) (hw : swappedStores [tg] e X.env = pure none := by rfl)
    (h1 : (assignEach [tg] X.env).map (·.2) = [assign tg X.env] := by rfl) : LSt X (.Assign [tg] e pos) (fQ te p) :=
  ⟨PS.imp (ps_asg he.pe hg.pg hs hw h1) fun D σ H ⟨m, env, h, P, at_, t1, k⟩ => ⟨m, env, h, _, at_, t1, fun v h1 p1 m1 H1 x E1 R1 r1 => by
    obtain ⟨env', σ', q, f, R', _, _⟩ := bind_sim R1 (at_.nm.ex E1) r1 p1
    exact f _ (k.nx _ _ q m1 H1 σ' E1 ⟨R1, R'⟩)⟩⟩
theorem cI (i : Nat) {x : Str} {e : Expr} {te : LT} {pos' : Pos} (hN : X.N.Nodup) (he : LE X e te) (hi : X.N[i]? = some x := by rfl) (hx : Loc X.env.scope x := by first | exact Or.inl rfl | exact Or.inr rfl) (hs : swapsWith e (some (.Name x pos')) pos.line X.env = pure false := by rfl)
    (hf : X.fn x = true ∨ X.env.scope.names.lookup x = some .local := by first | exact .inl rfl | exact .inr rfl) : LSt X (.Assign [.Name x pos'] e pos) (aY te i) :=
  ⟨PS.imp (ps_set hN hi hx he.pe hs hf) fun D σ H ⟨m, env, h, P, at_, t1, k⟩ => ⟨m, env, h, _, at_, t1, fun v h1 p1 m1 H1 x E1 R1 r1 => k.nx _ _ p1 m1 H1 _ E1 ⟨R1, (at_.nm.ex E1).set r1 i⟩⟩⟩
def eU (i j : Nat) (ta : LA) : LS := fun D env h => ta env h fun vs h1 => match vs with
  | [v, w] => D.nx ((env.set i (some v)).set j (some w)) h1
  | _ => False
theorem ls_par (i j : Nat) {x y : Str} {a b : Expr} {ta : LA} {px py pt : Pos} {kt k2 pt2} (hc : X.calm = true) (hN : X.N.Nodup) (ha : LAs X [a, b] ta) (hi : X.N[i]? = some x := by rfl) (hj : X.N[j]? = some y := by rfl) (hij : i ≠ j := by decide)
    (hx : X.env.scope.names.lookup x = some .local := by rfl) (hy : X.env.scope.names.lookup y = some .local := by rfl)
    (hw : swappedStores [.Tuple [.Name x px, .Name y py] kt pt] (.Tuple [a, b] k2 pt2) X.env = pure (some [x, y]) := by rfl)
    (hs : swapsWithSole [.Tuple [.Name x px, .Name y py] kt pt] (.Tuple [a, b] k2 pt2) pos.line X.env = pure false := by rfl) :
    LSt X (.Assign [.Tuple [.Name x px, .Name y py] kt pt] (.Tuple [a, b] k2 pt2) pos) (eU i j ta) := by
  refine ⟨PS.imp (ps_par hc hN hi hj hij hx hy ha.pa hw hs) fun D σ H ⟨m, env, h, P, at_, t1, k⟩ => ⟨m, env, h, _, at_, t1, fun vs h1 p1 m1 H1 xs E1 R1 r1 => ?_⟩⟩
  split at p1
  · obtain ⟨v, w, rfl, a, b⟩ := r1.two_inv
    exact ⟨v, w, rfl, k.nx _ _ p1 m1 H1 _ E1 ⟨R1, ((at_.nm.ex E1).set a i).set b j⟩⟩
  · exact p1.elim
def setE (o i v : EV) (h : EH) (P : EH → Prop) : Prop := match o, i with
  | .ref r, .int k => match h[r]? with
    | some (.lst xs) => match ixN xs.length k with
      | some j => P (h.set r (.lst (xs.set j v)))
      | none => False
    | _ => False
  | _, _ => False
theorem set_sim {K : PySem.W.Frag} {m : Nat → Addr} {h : EH} {H : Hp} {o i v : EV} {x y z : V} {P : EH → Prop} {Q : Hp → Prop} (R : cC K m h H) (rx : aC K m h.length H o x) (ry : aC K m h.length H i y) (rz : aC K m h.length H v z) (q : setE o i v h P)
    (k : ∀ h', P h' → ∀ H', Ex K m h.length H m h'.length H' → cC K m h' H' → Q H') : rSetL x y z H Q := by
  unfold setE at q
  split at q
  · rw [aC] at rx
    rw [aC] at ry
    obtain ⟨_, rfl⟩ := rx
    subst ry
    split at q
    · rename_i ls e
      obtain ⟨vs, a, r⟩ := R.obj _ _ e
      split at q
      · rename_i j ej
        refine ⟨_, vs, _, j, rfl, rfl, a, by rw [← r.length]; exact ej, ?_⟩
        have E := Ex.write (o := .lst (vs.set j z)) (e' := EO.lst (List.set ls j v)) R e
        exact k _ q _ E (R.write e ⟨_, upd_same, aO.set (aC.ex E _ _ rz) j (aO.ex E _ _ r)⟩)
      · exact q.elim
    · exact q.elim
  · exact q.elim
def dR (to ti te : LT) : LS := fun D env h => te env h fun v h1 => to env h1 fun o h2 => ti env h2 fun i h3 => setE o i v h3 fun h4 => D.nx env h4
def getE (v w : EV) (h : EH) (P : EV → Prop) : Prop := match v, w with
  | .ref r, .int i => match h[r]? with
    | some (.lst xs) => 0 ≤ i ∧ match xs[i.toNat]? with
      | some x => P x
      | none => False
    | _ => False
  | _, _ => False
def dB (f : Int → Int → Int) (to ti te : LT) : LS := fun D env h => to env h fun o h1 => ti env h1 fun i h2 => getE o i h2 fun x => te env h2 fun y h4 => match x, y with
  | .int a, .int b => setE o i (.int (f a b)) h4 fun h5 => D.nx env h5
  | _, _ => False
def rGetN (K : PySem.W.Frag) : R2 := fun o i H Q => ∃ (p : Addr) (xs : List V) (k : Int) (x : V), o = .ref p ∧ i = .int k ∧ SqL K H p xs ∧ 0 ≤ k ∧ xs[k.toNat]? = some x ∧ Q x H
theorem pget_list : PGet X (rGetN X.K) := by
  intro pins s σ H o i ov iv Q I ro ri q
  obtain ⟨p, xs, k, x, rfl, rfl, hq, h0, hx, q⟩ := q
  cases ro
  obtain ⟨t, rfl⟩ := ri
  obtain ⟨its, rv, pl, hz⟩ := I.list hq
  obtain ⟨u, hu, ru⟩ := rv.get hx
  have hlt := (List.getElem?_eq_some_iff.mp hx).1
  have hs : sizeLine = 16777216 := by decide
  exact wpAny_getItem_list pl.isList h0 (by omega) (by simpa using hu) ⟨x, H, I, ru, q⟩
theorem ls_augS {o i e : Expr} {to ti te : LT} {op : Operator} {f : Int → Int → Int} {tpos : Pos} (hp : PIp X op (ipI f)) (ho : LE X o to) (hi : LE X i ti) (he : LE X e te)
    (ha : ∀ ov iv new, augStore i ov iv new = (do holding [new, ov, iv] (setItem ov iv new); release [new, ov, iv] []; pure .next) := by intros; rfl) : LSt X (.AugAssign (.Subscript o i tpos) op e pos) (dB f to ti te) := by
  refine ⟨PS.imp (ps_augS ho.pe hi.pe pget_list he.pe hp set_list ha) fun D σ H ⟨m, env, h, P, at_, t1, k⟩ => ⟨m, env, h, _, at_, t1, fun o h1 p1 m1 H1 x E1 R1 r1 => ⟨m1, env, h1, _, at_.ex E1 R1, p1, fun i h2 p2 m2 H2 y E2 R2 r2 => ?_⟩⟩⟩
  have ro2 := aC.ex E2 _ _ r1
  unfold getE at p2
  split at p2
  · have ro := ro2
    have ri := r2
    rw [aC] at ro
    rw [aC] at ri
    obtain ⟨_, e1⟩ := ro
    split at p2
    · rename_i ls e
      obtain ⟨vs, a, r⟩ := R2.obj _ _ e
      obtain ⟨h0, p2⟩ := p2
      split at p2
      · rename_i w ew
        obtain ⟨u, hu, ru⟩ := r.at ew
        refine ⟨_, vs, _, u, e1, ri, SqL.of a, h0, hu, m2, env, h2, _, (at_.ex E1 R1).ex E2 R2, p2, fun v h3 p3 m3 H3 z E3 R3 r3 => ?_⟩
        have ru3 := aC.ex E3 _ _ ru
        split at p3
        · rw [aC] at ru3
          rw [aC] at r3
          refine ⟨_, _, ru3, r3, ?_⟩
          exact set_sim R3 (aC.ex E3 _ _ ro2) (aC.ex E3 _ _ r2) (by rw [aC]) p3 fun h4 p4 H4 E4 R4 => k.nx _ _ p4 m3 H4 σ (((E1.trans E2).trans E3).trans E4) ((((at_.ex E1 R1).ex E2 R2).ex E3 R3).ex E4 R4)
        · exact p3.elim
      · exact p2.elim
    · exact p2.elim
  · exact p2.elim
end
abbrev LI := En → EH → ((EH → Prop) → List EV → EH → Prop) → Prop
def SimIt (K : PySem.W.Frag) (m : Nat → Addr) (n : Nat) (H : Hp) (J : It) (g : EH → Prop) (xs : List EV) : Prop :=
  ∀ (i : Nat) (h' : EH) (m' : Nat → Addr) (H' : Hp), Ex K m n H m' h'.length H' → cC K m' h' H' → g h' →
    (∀ x, xs[i]? = some x → J.go i H' ∧ ∀ v H2, J.yld i H' v H2 → Ex K m' h'.length H' m' h'.length H2 ∧ cC K m' h' H2 ∧ aC K m' h'.length H2 x v) ∧ (xs.length = i → J.stop i H')
def upI (K : PySem.W.Frag) (t : LI) : TI := fun σ H R => ∃ m env h P, At K env h m σ H ∧ t env h P ∧
  ∀ g xs h', P g xs h' → ∀ (m' : Nat → Addr) (H' : Hp) (J : It), Ex K m h.length H m' h'.length H' → cC K m' h' H' → SimIt K m' h'.length H' J g xs → R J H'
structure LIt (X : Cx) (tg iter : Expr) (t : LI) : Prop where
  pi : PI X tg iter (upI X.K t)
def lTrue : EH → Prop := fun _ => True
def loopE (g : EH → Prop) (p : Pat) (tb : LS) (D : qm) : List EV → En → EH → Prop
  | [], env, h => g h ∧ D.nx env h
  | x :: xs, env, h => g h ∧ gq h p x env fun env2 => tb { D with nx := loopE g p tb D xs, ct := loopE g p tb D xs, bk := D.nx } env2 h
def eE (ti : LI) (p : Pat) (tb : LS) : LS := fun D env h => ti env h fun g xs h1 => loopE g p tb D xs env h1
def whileE (c : LTt) (tb : LS) (D : qm) : Nat → En → EH → Prop
  | 0, _, _ => False
  | n + 1, env, h => c env h fun b h1 => if b = true then tb { D with nx := whileE c tb D n, ct := whileE c tb D n, bk := D.nx } env h1 else D.nx env h1
def lWhile (c : LTt) (tb : LS) : LS := fun D env h => ∃ n, whileE c tb D n env h
section
variable {X : Cx} {pos : Pos}
theorem ls_for {tg iter : Expr} {body : List Stmt} {ti : LI} {p : Pat} {tb : LS} (hp : PassesOwn (model X.prog X.w) X.A X.env X.xe) (hc : X.calm = true) (hi : LIt X tg iter ti) (hg : LG X tg p) (hb : LSs X body tb)
    (hs : ∀ x, foldedSetIterable iter X.env x = pure x := by intro _; rfl) : LSt X (.For tg iter body [] pos) (eE ti p tb) := by
  refine ⟨PS.imp (ps_for hp hc hi.pi hg.pg hb.pss hs) fun D σ H ⟨m, env, h, P, at_, t1, k⟩ => ⟨m, env, h, _, at_, t1, fun g xs h1 p1 m1 H1 J E1 R1 sim => ?_⟩⟩
  refine ⟨fun i c σ' H' => c = xs.length - i ∧ i ≤ xs.length ∧ ∃ m2 env2 h2, Ex X.K m1 h1.length H1 m2 h2.length H' ∧ At X.K env2 h2 m2 σ' H' ∧ loopE g p tb P (xs.drop i) env2 h2, ⟨xs.length, by simp, Nat.zero_le _, m1, env, h1, .refl, at_.ex E1 R1, by simpa using p1⟩, ?_⟩
  rintro i c σ' H' ⟨rfl, hi, m2, env2, h2, E2, a2, q⟩
  by_cases hlt : i < xs.length
  · have ed : xs.drop i = xs[i] :: xs.drop (i + 1) := List.drop_eq_getElem_cons hlt
    rw [ed, loopE] at q
    obtain ⟨qg, q⟩ := q
    obtain ⟨s1, s2⟩ := sim i h2 m2 H' E2 a2.hp qg
    obtain ⟨go, yl⟩ := s1 xs[i] (List.getElem?_eq_getElem hlt)
    refine .inr ⟨go, fun σ3 H3 => ∃ m3 env3 h3, Ex X.K m1 h1.length H1 m3 h3.length H3 ∧ At X.K env3 h3 m3 σ3 H3 ∧ loopE g p tb P (xs.drop (i + 1)) env3 h3, fun σ3 H3 ⟨m3, env3, h3, E3, a3, q3⟩ => ⟨xs.length - (i + 1), by omega, rfl, hlt, m3, env3, h3, E3, a3, q3⟩, fun v H3 y => ?_⟩
    obtain ⟨E3, R3, r3⟩ := yl v H3 y
    obtain ⟨env4, σ4, q4, f, R4, _, _⟩ := bind_sim R3 (a2.nm.ex E3) r3 q
    refine f _ ⟨m2, env4, h2, _, ⟨R3, R4⟩, q4, ?_⟩
    have E13 := E2.trans E3
    have k13 := k.ex (E1.trans E13)
    exact ⟨fun e5 h5 p5 m5 H5 σ5 E5 a5 => ⟨m5, e5, h5, E13.trans E5, a5, p5⟩, k13.rt, k13.nx, fun e5 h5 p5 m5 H5 σ5 E5 a5 => ⟨m5, e5, h5, E13.trans E5, a5, p5⟩⟩
  · have e : i = xs.length := by omega
    subst e
    rw [List.drop_length, loopE] at q
    obtain ⟨_, s2⟩ := sim xs.length h2 m2 H' E2 a2.hp q.1
    exact .inl ⟨s2 rfl, k.nx _ _ q.2 m2 H' σ' (E1.trans E2) a2⟩
theorem ls_while {c : Expr} {body : List Stmt} {tc : LTt} {tb : LS} (hp : PassesOwn (model X.prog X.w) X.A X.env X.xe) (hc : LTe X c tc) (hb : LSs X body tb) : LSt X (.While c body [] pos) (lWhile tc tb) := by
  refine ⟨PS.imp (ps_while hp hc.pt hb.pss) fun D σ H ⟨m, env, h, P, at_, t1, k⟩ => ?_⟩
  obtain ⟨n, t1⟩ := t1
  refine ⟨fun c σ' H' => ∃ m2 env2 h2, Ex X.K m h.length H m2 h2.length H' ∧ At X.K env2 h2 m2 σ' H' ∧ whileE tc tb P c env2 h2, ⟨n, m, env, h, .refl, at_, t1⟩, ?_⟩
  rintro c σ' H' ⟨m2, env2, h2, E2, a2, q⟩
  cases c with
  | zero => exact q.elim
  | succ c =>
    rw [whileE] at q
    refine ⟨m2, env2, h2, _, a2, q, fun b h3 p3 m3 H3 E3 R3 => ?_⟩
    cases b with
    | true =>
      rw [if_pos rfl] at p3 ⊢
      have E13 := E2.trans E3
      have k13 := k.ex E13
      refine ⟨fun σ4 H4 => ∃ m4 env4 h4, Ex X.K m h.length H m4 h4.length H4 ∧ At X.K env4 h4 m4 σ4 H4 ∧ whileE tc tb P c env4 h4, fun σ4 H4 q4 => ⟨c, Nat.lt_succ_self c, q4⟩, m3, env2, h3, _, a2.ex E3 R3, p3, ?_⟩
      exact ⟨fun e5 h5 p5 m5 H5 σ5 E5 a5 => ⟨m5, e5, h5, E13.trans E5, a5, p5⟩, k13.rt, k13.nx, fun e5 h5 p5 m5 H5 σ5 E5 a5 => ⟨m5, e5, h5, E13.trans E5, a5, p5⟩⟩
    | false =>
      rw [if_neg Bool.false_ne_true] at p3 ⊢
      exact k.nx _ _ p3 m3 H3 σ' (E2.trans E3) (a2.ex E3 R3)
def lIt (t : LT) : LI := fun env h P => t env h fun v h1 => match v with
  | .ref r => match h1[r]? with
    | some (.lst xs) => P (fun h' => h'[r]? = some (.lst xs)) xs h1
    | some (.frz xs) => P (fun h' => h'[r]? = some (.frz xs)) xs h1
    | _ => False
  | .tup xs => P lTrue xs h1
  | .ktup xs => P lTrue xs h1
  | .str s => P lTrue (s.map fun c => .str [c]) h1
  | _ => False
def iAny (K : PySem.W.Frag) (te : TE) : TI := fun σ H R => te σ H fun x H1 => (∃ a, x = .ref a ∧ (∃ xs, SqL K H1 a xs) ∧ R (Itl K a) H1) ∨ (∃ a, x = .ref a ∧ (∃ xs, SqT K H1 a xs) ∧ R (Itt K a) H1) ∨ ∃ z, x = .str z ∧ R (Its z) H1
theorem pi_any {tg e : Expr} {te : TE} (he : PE X e te) : PI X tg e (iAny X.K te) := by
  refine ⟨fun pins s σ H R I h => thn (he.run pins s σ H _ I h) fun v s1 ⟨x, H1, I1, r1, q⟩ => ?_⟩
  rcases q with ⟨a, rfl, ⟨xs, hq⟩, q⟩ | ⟨a, rfl, ⟨xs, hq⟩, q⟩ | ⟨z, rfl, q⟩
  · cases r1
    obtain ⟨its, rv, p, hz⟩ := I1.list hq
    exact wpAny_pyIter_list p.isList (pi_one (tk := s1.toks) I1 _ (turn_list a _) ⟨_, Heap.get?_push_size _ rfl, rfl, rfl⟩ q)
  · cases r1
    obtain ⟨its, rv, p, hz⟩ := I1.tuple hq
    exact wpAny_pyIter_tuple (show s1.heap.IsTuple a its.toArray from p) (pi_one (tk := s1.toks) I1 _ (turn_tuple a _) ⟨_, Heap.get?_push_size _ rfl, rfl, rfl⟩ q)
  · obtain ⟨t, rfl⟩ := r1
    cases ha : z.cps.all (· < 128)
    · exact wpAny_pyIter_wide ha (pi_one (tk := s1.toks) I1 _ (turn_str _ z t "str_iterator" (.inr rfl)) ⟨_, Heap.get?_push_size _ rfl, rfl, rfl⟩ q)
    · exact wpAny_pyIter_ascii ha (pi_one (tk := s1.toks) I1 _ (turn_str _ z t "str_ascii_iterator" (.inl rfl)) ⟨_, Heap.get?_push_size _ rfl, rfl, rfl⟩ q)
theorem SimIt.lst {K : PySem.W.Frag} {m : Nat → Addr} {n r : Nat} {H : Hp} {xs : List EV} {g : EH → Prop} (hr : r < n)
    (hh : ∀ h' m' H', Ex K m n H m' h'.length H' → cC K m' h' H' → g h' → ∃ us, SqL K H' (m' r) us ∧ aO K m' h'.length H' xs us) : SimIt K m n H (Itl K (m r)) g xs := by
  intro i h' m' H' E' R' gh
  obtain ⟨us, s1, r1⟩ := hh h' m' H' E' R' gh
  rw [E'.eq r hr] at s1
  refine ⟨fun x hx => ?_, fun hi => ⟨us, s1, by rw [← r1.length]; exact Nat.le_of_eq hi⟩⟩
  obtain ⟨u, hu, ru⟩ := r1.at hx
  refine ⟨⟨us, u, s1, hu⟩, fun v H2 ⟨e, y⟩ => ?_⟩
  subst e
  have := y us s1
  rw [hu] at this
  cases this
  exact ⟨.refl, R', ru⟩
theorem o7 {tg e : Expr} {t : LT} (he : LE X e t) : LIt X tg e (lIt t) := by
  refine ⟨PI.imp (pi_any he.pe) fun σ H R ⟨m, env, h, P, at_, t1, k⟩ => ⟨m, env, h, _, at_, t1, fun v h1 p1 m1 H1 x E1 R1 r1 => ?_⟩⟩
  split at p1
  · rename_i r
    rw [aC] at r1
    obtain ⟨hr, rfl⟩ := r1
    split at p1
    · rename_i xs e
      obtain ⟨vs, a, r2⟩ := R1.obj _ _ e
      refine .inl ⟨_, rfl, ⟨vs, SqL.of a⟩, k _ xs h1 p1 m1 H1 _ E1 R1 (SimIt.lst hr fun h' m' H' E' R' gh => ?_)⟩
      obtain ⟨us, a', r'⟩ := R'.obj _ _ gh
      exact ⟨us, SqL.of a', r'⟩
    · rename_i xs e
      obtain ⟨vs, a, r2⟩ := R1.obj _ _ e
      refine .inl ⟨_, rfl, ⟨vs, a.sql⟩, k _ xs h1 p1 m1 H1 _ E1 R1 (SimIt.lst hr fun h' m' H' E' R' gh => ?_)⟩
      obtain ⟨us, a', r'⟩ := R'.obj _ _ gh
      exact ⟨us, a'.sql, r'⟩
    · exact p1.elim
  · rename_i xs
    rw [aC] at r1
    obtain ⟨a, vs, rfl, hs, r2⟩ := r1
    refine .inr (.inl ⟨_, rfl, ⟨vs, SqT.of hs⟩, k _ xs h1 p1 m1 H1 _ E1 R1 fun i h' m' H' E' R' _ => ?_⟩)
    have hs' := E'.tup _ _ (SqT.of hs)
    have r' := aO.ex E' _ _ r2
    refine ⟨fun x hx => ?_, fun hi => ⟨vs, hs', by rw [← r'.length]; exact Nat.le_of_eq hi⟩⟩
    obtain ⟨u, hu, ru⟩ := r'.at hx
    refine ⟨⟨vs, u, hs', hu⟩, fun v H2 ⟨e, y⟩ => ?_⟩
    subst e
    have := y vs hs'
    rw [hu] at this
    cases this
    exact ⟨.refl, R', ru⟩
  · rename_i xs
    rw [aC] at r1
    obtain ⟨a, vs, rfl, hs, r2⟩ := r1
    refine .inr (.inl ⟨_, rfl, ⟨vs, hs⟩, k _ xs h1 p1 m1 H1 _ E1 R1 fun i h' m' H' E' R' _ => ?_⟩)
    have hs' := E'.tup _ _ hs
    have r' := aO.ex E' _ _ r2
    refine ⟨fun x hx => ?_, fun hi => ⟨vs, hs', by rw [← r'.length]; exact Nat.le_of_eq hi⟩⟩
    obtain ⟨u, hu, ru⟩ := r'.at hx
    refine ⟨⟨vs, u, hs', hu⟩, fun v H2 ⟨e, y⟩ => ?_⟩
    subst e
    have := y vs hs'
    rw [hu] at this
    cases this
    exact ⟨.refl, R', ru⟩
  · rename_i s
    rw [aC] at r1
    subst r1
    refine .inr (.inr ⟨_, rfl, k _ _ h1 p1 m1 H1 _ E1 R1 fun i h' m' H' E' R' _ => ?_⟩)
    refine ⟨fun x hx => ?_, fun hi => ?_⟩
    · rw [List.getElem?_map] at hx
      obtain ⟨c, hc, rfl⟩ := Option.map_eq_some_iff.mp hx
      have hl := (List.getElem?_eq_some_iff.mp hc).1
      refine ⟨by show i < s.toArray.size; simpa using hl, fun v H2 ⟨e, c', hc', y⟩ => ?_⟩
      subst e y
      have e2 : s[i]? = some c' := by simpa using hc'
      rw [hc] at e2
      cases e2
      exact ⟨.refl, R', by rw [aC]⟩
    · show s.toArray.size ≤ i
      simpa using Nat.le_of_eq hi
  · exact p1.elim
def lG (lo : Int) (n : Nat) : List EV := (List.range n).map fun (i : Nat) => EV.int (lo + i)
def bW (ta : LA) : LI := fun env h P => ta env h fun vs h1 => match vs with
  | [.int j] => (-(2 ^ 62) ≤ j ∧ j < 2 ^ 62) ∧ P lTrue (lG 0 j.toNat) h1
  | _ => False
def dh (ta : LA) : LI := fun env h P => ta env h fun vs h1 => match vs with
  | [.int i, .int j] => (-(2 ^ 62) ≤ i ∧ i < 2 ^ 62 ∧ -(2 ^ 62) ≤ j ∧ j < 2 ^ 62) ∧ P lTrue (lG i (j - i).toNat) h1
  | _ => False
theorem SimIt.rng {K : PySem.W.Frag} {m : Nat → Addr} {n : Nat} {H : Hp} {lo : Int} {k : Nat} {g : EH → Prop} : SimIt K m n H (Itr lo k) g (lG lo k) := by
  intro i h' m' H' E' R' gh
  unfold lG
  refine ⟨fun x hx => ?_, fun hi => by show k ≤ i; simpa using Nat.le_of_eq hi⟩
  rw [List.getElem?_map] at hx
  obtain ⟨j, hj, rfl⟩ := Option.map_eq_some_iff.mp hx
  obtain ⟨hl, e⟩ := List.getElem?_eq_some_iff.mp hj
  rw [List.length_range] at hl
  rw [List.getElem_range] at e
  subst e
  refine ⟨hl, fun v H2 ⟨e1, e2⟩ => ?_⟩
  subst e1 e2
  exact ⟨.refl, R', by rw [aC]⟩
theorem nq {tg a : Expr} {ta : LA} {p pos : Pos} (hg : Gl X "range") (hm : X.mg "range" = none) (ha : LAs X [a] ta) (hs : starEach [a] X.env = [(false, eval a X.env)] := by rfl) : LIt X tg (.Call (.Name "range" p) [a] [] pos) (bW ta) := by
  refine ⟨PI.imp (pi_range1 hg hm ha.pa hs) fun σ H R ⟨m, env, h, P, at_, t1, k⟩ => ⟨m, env, h, _, at_, t1, fun vs h1 p1 m1 H1 xs E1 R1 r1 => ?_⟩⟩
  split at p1
  · obtain ⟨v, rfl, r2⟩ := r1.one_inv
    rw [aC] at r2
    subst r2
    exact ⟨_, rfl, p1.1.1, p1.1.2, k _ _ h1 p1.2 m1 H1 _ E1 R1 SimIt.rng⟩
  · exact p1.elim
theorem lit_range2 {tg a b : Expr} {ta : LA} {p pos : Pos} (hg : Gl X "range") (hm : X.mg "range" = none) (ha : LAs X [a, b] ta) (hs : starEach [a, b] X.env = [(false, eval a X.env), (false, eval b X.env)] := by rfl) (hs2 : starEach [b] X.env = [(false, eval b X.env)] := by rfl) :
    LIt X tg (.Call (.Name "range" p) [a, b] [] pos) (dh ta) := by
  refine ⟨PI.imp (pi_range2 hg hm ha.pa hs hs2) fun σ H R ⟨m, env, h, P, at_, t1, k⟩ => ⟨m, env, h, _, at_, t1, fun vs h1 p1 m1 H1 xs E1 R1 r1 => ?_⟩⟩
  split at p1
  · obtain ⟨v, w, rfl, r2, r3⟩ := r1.two_inv
    rw [aC] at r2
    rw [aC] at r3
    subst r2 r3
    exact ⟨_, _, rfl, p1.1, k _ _ h1 p1.2 m1 H1 _ E1 R1 SimIt.rng⟩
  · exact p1.elim
def cA (env : En) : List Nat → En
  | [] => env
  | v :: vs => (cA env vs).set v none
theorem qb.wipe {K : PySem.W.Frag} {m : Nat → Addr} {n : Nat} {H : Hp} {env : En} {σ : L2.St} (R : qb K m n H env σ) : ∀ vs, qb K m n H (cA env vs) (wipe σ vs)
  | [] => R
  | v :: vs => by
    have r := qb.wipe R vs
    unfold cA L2.wipe
    refine ⟨by simpa using r.1, fun j w hj => ?_⟩
    by_cases e : v = j
    · subst e
      have hl : v < (cA env vs).length := by
        have := (List.getElem?_eq_some_iff.mp hj).1
        simpa using this
      rw [List.getElem?_set_self hl] at hj
      cases hj
    · rw [List.getElem?_set_ne e] at hj ⊢
      exact r.2 j w hj
theorem wipe_at (σ : L2.St) : ∀ (vs : List Nat) (i : Nat), (wipe σ vs)[i]? = if i ∈ vs then (σ[i]?).map (fun _ => none) else σ[i]?
  | [], i => by simp [L2.wipe]
  | v :: vs, i => by
    unfold L2.wipe
    rw [List.getElem?_set, wipe_at σ vs i, wipe_length]
    by_cases e : v = i
    · subst e
      by_cases hl : v < σ.length
      · simp [hl]
      · simp [hl]
    · have : ¬ i = v := fun z => e z.symm
      simp [e, this]
theorem wipe_back {σ σ' : L2.St} {vs ss : List Nat} (h : ∀ i, i ∉ ss → σ'[i]? = (wipe σ vs)[i]?) (hs : ∀ i ∈ ss, i ∈ vs) (hl : σ'.length = σ.length) : wipe σ' vs = wipe σ vs := by
  refine List.ext_getElem? fun i => ?_
  rw [wipe_at, wipe_at]
  by_cases hv : i ∈ vs
  · rw [if_pos hv, if_pos hv]
    by_cases hi : i < σ.length
    · rw [List.getElem?_eq_getElem hi, List.getElem?_eq_getElem (by omega)]; rfl
    · rw [List.getElem?_eq_none (by omega), List.getElem?_eq_none (by omega)]
  · rw [if_neg hv, if_neg hv, h i fun z => hv (hs i z), wipe_at, if_neg hv]
structure LTs (X : Cx) (ifs : List Expr) (t : LTt) : Prop where
  pts : PTs X ifs (upT X.K t)
def rY : LTt := fun _ h P => P true h
theorem PTs.imp {e : List Expr} {t t' : TT} (h : PTs X e t) (i : ∀ σ H Q, t' σ H Q → t σ H Q) : PTs X e t' := ⟨fun pins s σ H Q I q => h.run pins s σ H Q I (i σ H Q q)⟩
theorem lts_nil : LTs X [] rY := ⟨PTs.imp pts_nil fun σ H Q ⟨m, env, h, P, at_, t1, k⟩ => k _ _ t1 m H .refl at_.hp⟩
theorem lts_one {c : Expr} {t : LTt} (h : LTe X c t) : LTs X [c] t := ⟨pts_one h.pt⟩
def lcE (g : EH → Prop) (p : Pat) (tt : LTt) (te : LT) (d : Nat) (env : En) (P : EK) : List EV → EH → Prop
  | [], h => g h ∧ P (.ref d) h
  | x :: xs, h => g h ∧ gq h p x env fun env2 => tt env2 h fun b h3 => if b = true then te env2 h3 fun y h4 => match h4[d]? with
      | some (.lst acc) => acc.length < sizeLine ∧ lcE g p tt te d env P xs (h4.set d (.lst (acc ++ [y])))
      | _ => False
    else lcE g p tt te d env P xs h3
def lLc (ti : LI) (p : Pat) (tt : LTt) (te : LT) (vs : List Nat) : LT := fun env h P => ti env h fun g xs h1 => lcE g p tt te h1.length (cA env vs) P xs (h1 ++ [.lst []])
theorem le_lc {elt tg iter : Expr} {ifs : List Expr} {scope : Scope} (own : List (Str × Nat)) {ti : LI} {p : Pat} {tt : LTt} {te : LT} (hc : X.calm = true) (hN : X.N.Nodup) (hi : LIt X tg iter ti) (ok : BlkOk X.N X.env.scope scope own)
    (hp : ∀ i ∈ Pat.slots p, i ∈ own.map (·.2))
    (hg : ∀ (s : Shared) (H : Hp) (C : Addr) (cl : List (Str × Addr)) (fp : List Addr), LG (X.blk s H scope (compEnvC scope cl C X.env) fp) tg p)
    (ht : ∀ (s : Shared) (H : Hp) (C : Addr) (cl : List (Str × Addr)) (fp : List Addr), LTs (X.blk s H scope (compEnvC scope cl C X.env) fp) ifs tt)
    (he : ∀ (s : Shared) (H : Hp) (C : Addr) (cl : List (Str × Addr)) (fp : List Addr), LE (X.blk s H scope (compEnvC scope cl C X.env) fp) elt te) (hs : ∀ x, foldedSetIterable iter X.env x = pure x := by intro _; rfl) :
    LE X (.ListComp elt [⟨tg, iter, ifs, 0⟩] scope pos) (lLc ti p tt te (own.map (·.2))) := by
  refine ⟨PE.imp (pe_lc (g := gP X.K p) (tt := upT X.K tt) (te := up X.K te) hc hN hi.pi ok (fun s H C cl fp => (hg s H C cl fp).pg) (fun s H C cl fp => (ht s H C cl fp).pts) (fun s H C cl fp => (he s H C cl fp).pe) hs) fun σ H Q ⟨m, env, h, P, at_, t1, k⟩ => ⟨m, env, h, _, at_, t1, fun g xs h1 p1 m1 H1 J E1 R1 sim D hD => ?_⟩⟩
  have E2 : Ex X.K m1 h1.length H1 (oU m1 h1.length D) (h1 ++ [EO.lst []]).length (upd H1 D (.lst [])) := Ex.new hD
  have R2 : cC X.K (oU m1 h1.length D) (h1 ++ [EO.lst []]) (upd H1 D (.lst [])) := R1.new hD ⟨[], upd_same, .nil⟩
  refine ⟨fun i c H' => c = xs.length - i ∧ i ≤ xs.length ∧ ∃ m2 h2, Ex X.K m1 h1.length H1 m2 h2.length H' ∧ cC X.K m2 h2 H' ∧ m2 h1.length = D ∧ h1.length < h2.length ∧ lcE g p tt te h1.length (cA env (own.map (·.2))) P (xs.drop i) h2,
    ⟨xs.length, by simp, Nat.zero_le _, _, _, E2, R2, jx, by simp, by simpa using p1⟩, ?_⟩
  rintro i c H' ⟨rfl, hi, m2, h2, E3, R3, eD, lD, q⟩
  by_cases hlt : i < xs.length
  · have ed : xs.drop i = xs[i] :: xs.drop (i + 1) := List.drop_eq_getElem_cons hlt
    rw [ed, lcE] at q
    obtain ⟨qg, q⟩ := q
    obtain ⟨s1, s2⟩ := sim i h2 m2 H' E3 R3 qg
    obtain ⟨go, yl⟩ := s1 xs[i] (List.getElem?_eq_getElem hlt)
    refine .inr ⟨go, fun H4 => ∃ m4 h4, Ex X.K m1 h1.length H1 m4 h4.length H4 ∧ cC X.K m4 h4 H4 ∧ m4 h1.length = D ∧ h1.length < h4.length ∧ lcE g p tt te h1.length (cA env (own.map (·.2))) P (xs.drop (i + 1)) h4,
      fun H4 q4 => ⟨xs.length - (i + 1), by omega, rfl, hlt, q4⟩, fun v H4 y => ?_⟩
    obtain ⟨E4, R4, r4⟩ := yl v H4 y
    have E14 := (E1.trans E3).trans E4
    obtain ⟨env5, σ5, q5, f, N5, keep, len⟩ := bind_sim R4 ((at_.nm.ex E14).wipe (own.map (·.2))) r4 q
    refine f _ ⟨wipe_back (ss := Pat.slots p) keep hp (by rw [len, wipe_length]), m2, env5, h2, _, ⟨R4, N5⟩, q5, fun b h6 p6 m6 H6 E6 R6 => ?_⟩
    have E16 := (E3.trans E4).trans E6
    have lt2 := E6.le
    have eD6 : m6 h1.length = D := (E6.eq _ lD).trans eD
    cases b with
    | false =>
      dsimp only
      rw [if_neg Bool.false_ne_true] at p6 ⊢
      exact ⟨m6, h6, E16, R6, eD6, by omega, p6⟩
    | true =>
      dsimp only
      rw [if_pos rfl] at p6 ⊢
      refine ⟨m6, env5, h6, _, ⟨R6, N5.ex E6⟩, p6, fun w h7 p7 m7 H7 y7 E7 R7 r7 => ?_⟩
      have lt7 := E7.le
      have eD7 : m7 h1.length = D := (E7.eq _ (by omega)).trans eD6
      split at p7
      · rename_i acc e7
        obtain ⟨vs, a, r⟩ := R7.obj _ _ e7
        rw [eD7] at a
        refine ⟨vs, a, by rw [← r.length]; exact p7.1, ?_⟩
        have E8 := Ex.write (o := .lst (vs ++ [y7])) (e' := EO.lst (acc ++ [w])) R7 e7
        have R8 := R7.write (o := .lst (vs ++ [y7])) (e' := EO.lst (acc ++ [w])) e7 ⟨_, upd_same, (aO.ex E8 _ _ r).app (.one (aC.ex E8 _ _ r7))⟩
        rw [eD7] at E8 R8
        exact ⟨m7, _, (E16.trans E7).trans E8, R8, eD7, by simp; omega, p7.2⟩
      · exact p7.elim
  · have e : i = xs.length := by omega
    subst e
    rw [List.drop_length, lcE] at q
    obtain ⟨_, s2⟩ := sim xs.length h2 m2 H' E3 R3 q.1
    refine .inl ⟨s2 rfl, k _ _ q.2 m2 H' _ (E1.trans E3) R3 (by rw [aC]; exact ⟨lD, by rw [eD]⟩)⟩
end
end Y
namespace Y
open PySem PySem.Spec PyProof.Rows L2
abbrev LSp := List EV → EH → EK → Prop
def upSp (K : PySem.W.Frag) (sp : LSp) : List V → Hp → VK → Prop := fun vs H Q => ∃ m h evs P, cC K m h H ∧ aO K m h.length H evs vs ∧ sp evs h P ∧ Kon K m h.length H P Q
structure FnG (P : Program) (w : World) (K : PySem.W.Frag) (mg : Str → Option Value) (base : Heap) (k : Nat) (f : Addr) (fd : FuncData) (ps : List Str) (sp : LSp) : Prop where
  len : ∀ evs h Q, sp evs h Q → evs.length = ps.length
  run : ∀ (A : Around) (outer : List Env) (s : Shared) (H : Hp) (args : Args) (us : List Value) (vs : List V) (Q : VK), Room k A → A.guards = some [] → Env0 P w K mg base A outer s H →
    BindsTo s fd args (ps.zip us) → Vals vs us → upSp K sp vs H Q → codeAny (model P w) A (.call (.ref f) args) (CR CX0 outer P w H s Q E0) s
def aA (sp : LSp) (t : LA) : LT := fun env h P => t env h fun vs h1 => sp vs h1 P
section
variable {X : Cx} {k : Nat} {f : Addr} {fd : FuncData} {ps : List Str} {sp : LSp} {x : Str} {p pos : Pos} {e : Expr} {es : List Expr} {t : LA}
theorem upSp.len {K : PySem.W.Frag} {vs : List V} {H : Hp} {Q : VK} {n : Nat} (l : ∀ evs h Q, sp evs h Q → evs.length = n) (q : upSp K sp vs H Q) : vs.length = n := by
  obtain ⟨m, h, evs, P, R, r, s, _⟩ := q
  rw [← r.length]
  exact l _ _ _ s
theorem runG {pins : List (Addr × Obj)} {σ : L2.St} {H : Hp} {s : Shared} {Q : VK} {us : List Value} {vs : List V} (F : FnG X.prog X.w X.K X.mg X.base k f fd ps sp) (hr : Room k X.A) (hG : X.A.guards = some [])
    (hb : Binds X.K fd ps []) (I : Inv X pins σ H s) (r : Vals vs us) (q : upSp X.K sp vs H Q) : wpAny (model X.prog X.w) X.A (call (.ref f) us) (EP X pins σ Q) X.xe s := by
  have hl : us.length = ps.length := r.length.symm.trans (upSp.len F.len q)
  have b := hb s us I.kIn (by simpa using hl)
  rw [List.append_nil] at b
  refine wpAny_call (codeAny_mono (F.run X.A X.stack s H _ us vs Q hr hG I.env0 b r q) fun o s' ho => ?_)
  match o, ho with
  | .error _, ho => exact ho.elim
  | .ok (.ret u), ho => exact I.after ho
  | .ok .next, ho => exact ho.elim
  | .ok .brk, ho => exact ho.elim
  | .ok .cont, ho => exact ho.elim
theorem up_call {K : PySem.W.Frag} (σ : L2.St) (H : Hp) (Q : VK) (q : up K (aA sp t) σ H Q) : upA K t σ H fun vs H1 => upSp K sp vs H1 Q := by
  obtain ⟨m, env, h, P, at_, t1, k⟩ := q
  exact ⟨m, env, h, _, at_, t1, fun vs h1 p1 m1 H1 xs E1 R1 r1 => ⟨m1, h1, vs, P, R1, r1, p1, k.ex E1⟩⟩
theorem aK (F : FnG X.prog X.w X.K X.mg X.base k f fd ps sp) (hr : Room k X.A) (hG : X.A.guards = some []) (hg : Gl X x) (hm : X.mg x = some (.ref f)) (hk : PySem.W.keepIn X.K (.ref f) = true) (hb : Binds X.K fd ps [])
    (ha : LAs X (e :: es) t) (hdb : (x == ("__debug__" : Str)) = false := by decide) (he : starEach (e :: es) X.env = (false, eval e X.env) :: starEach es X.env := by rfl) (hpl : (backTo pos (starEach es X.env)).any (·.1) = false := by rfl) :
    LE X (.Call (.Name x p) (e :: es) [] pos) (aA sp t) :=
  ⟨⟨fun pins s σ H Q I q => wpAny_Call_Name_kw (ld_glob I hg hm (PySem.W.callWith_K (h₀ := X.base) I.ok.mod.kin hk (thn (ha.pa.run pos pins s σ H _ I (up_call σ H Q q)) fun us s1 ⟨vs, H1, I1, r, q1⟩ =>
    ⟨I1.kIn, runG F hr hG hb I1 r q1⟩) he hpl) hdb)⟩⟩
theorem le_call0 (F : FnG X.prog X.w X.K X.mg X.base k f fd ps sp) (hr : Room k X.A) (hG : X.A.guards = some []) (hg : Gl X x) (hm : X.mg x = some (.ref f)) (hk : PySem.W.keepIn X.K (.ref f) = true) (hb : Binds X.K fd ps [])
    (hdb : (x == ("__debug__" : Str)) = false := by decide) : LE X (.Call (.Name x p) [] [] pos) (aA sp au) :=
  ⟨⟨fun pins s σ H Q I ⟨m, env, h, P, at_, t1, k⟩ => wpAny_Call_Name_kw (ld_glob I hg hm (PySem.W.callWith_K0 I.kIn hk (runG (us := []) (vs := []) F hr hG hb I .nil ⟨m, h, [], P, at_.hp, .nil, t1, k⟩)) hdb)⟩⟩
end
def bJ (N : List Str) (vs : List EV) : En := vs.map some ++ List.replicate (N.length - vs.length) none
theorem start_rel {K : PySem.W.Frag} {m : Nat → Addr} {n : Nat} {H : Hp} (N : List Str) {evs : List EV} {vs : List V} (r : aO K m n H evs vs) : qb K m n H (bJ N evs) (start N vs) := by
  have l := r.length
  unfold bJ L2.start
  refine ⟨by simp [l], fun i v h => ?_⟩
  by_cases hi : i < evs.length
  · rw [List.getElem?_append_left (by simpa using hi), List.getElem?_map] at h
    obtain ⟨w, hw, e⟩ := Option.map_eq_some_iff.mp h
    cases e
    obtain ⟨x, hx, rx⟩ := r.at hw
    exact ⟨x, by rw [List.getElem?_append_left (by simp; omega), List.getElem?_map, hx]; rfl, rx⟩
  · rw [List.getElem?_append_right (by simpa using hi), List.getElem?_replicate] at h
    split at h <;> cases h
abbrev aN (Q : EK) : qm := { nx := fun _ h => Q .non h, rt := Q }
theorem cG {P : Program} {w : World} {K : PySem.W.Frag} {mg : Str → Option Value} {base : Heap} {k : Nat} {f : Addr} {fd : FuncData} {name qual : Str} {params : Arguments} {body : List Stmt} {scope : Scope} {N ps : List Str} {sp : LSp}
    (F : FunD K name qual params body scope [] [] f fd) (Sc : FnScope N ps scope) (len : ∀ evs h Q, sp evs h Q → evs.length = ps.length)
    (hbody : ∀ (cdv : Value) (A : Around) (outer : List Env) (s : Shared) (H : Hp), Room k (A.deeper (envOfC qual scope s.heap.objs.size f cdv)) → (A.deeper (envOfC qual scope s.heap.objs.size f cdv)).guards = some [] →
      ∃ t, LSs (cxOf CX0 P w K mg base N qual scope f cdv A outer s H E0).nox body t ∧ ∀ evs h Q, sp evs h Q → t (aN Q) (bJ N evs) h) :
    FnG P w K mg base (k + 1) f fd ps sp := by
  obtain ⟨oc, od, dV, kV, doc, pm, an, cdv, ct, osl, rfl, lk, hcd, _, _⟩ := F.ex
  refine ⟨len, fun A outer s H args us vs Q hr hG e0 hb r q => ?_⟩
  have hl : vs.length = ps.length := upSp.len len q
  have keepB : ∀ b o, base.get? b = some o → s.heap.get? b = some o := fun b o e => (e0.bs b o e).1
  have inK := e0.mod.kin.keeps keepB
  obtain ⟨t, ht, hq⟩ := hbody cdv A outer s H (hr.deeper _) hG
  refine codeAny_call_function hr.depth (inK _ _ lk) rfl Sc.co Sc.gen rfl (PySem.W.codeRec_of inK hcd) (hb _ _ _ _ ?_)
  refine wpAny_newFunctionEnv_cells Sc.kind (fun y hy => ?_) fun env he s1 x => ?_
  · rcases Sc.par y.1 (List.of_mem_zip hy).1 with z | z
    · exact .inl z
    · exact .inr ⟨z, PySem.W.cellsFrom_some _ _ _ (.inl z)⟩
  · subst he
    refine ⟨(e0.mod.nolimit.keeps keepB).keeps x.toInCall.keep, codeAny_func ?_⟩
    obtain ⟨m, h, evs, Pk, R, re, sq, kq⟩ := q
    have I := inv_start (CX := CX0) (P := P) (w := w) (K := K) (mg := mg) (base := base) (E := E0) Sc hr.hd e0 hl r x
    have run := ht.pss.nox.run [] s1 (start N vs) H { nx := fun _ H' => Q .non H', rt := Q } I ⟨m, bJ N evs, h, aN Pk, ⟨R, start_rel N re⟩, hq evs h Pk sq, ⟨fun env' h' p m' H' σ' E' a' => kq _ _ p m' H' _ E' a'.hp (by rw [aC]), kq, fun _ _ z => z.elim, fun _ _ z => z.elim⟩⟩
    refine wpAny_mono run (fun fl s' hs => ?_) fun e s' hs => hs
    match fl, hs with
    | .ret u, ⟨v, σ', H', J, rv, z⟩ => exact ⟨v, H', J.os, J.bare, J.base, J.hok, rv, z⟩
    | .next, ⟨σ', H', J, z⟩ => exact ⟨.non, H', J.os, J.bare, J.base, J.hok, rfl, z⟩
    | .brk, ⟨_, _, _, z⟩ => exact z.elim
    | .cont, ⟨_, _, _, z⟩ => exact z.elim
def spTop (n : Nat) : LSp := fun evs h Q => ∃ ns : List Int, evs = [.ref 0] ∧ h = [.frz (ns.map EV.int)] ∧ ns.length ≤ n ∧ ∀ h', Q (.bl true) h'
theorem rel_ints {K : PySem.W.Frag} {m : Nat → Addr} {n : Nat} {H : Hp} : ∀ ns : List Int, aO K m n H (ns.map EV.int) (ns.map V.int)
  | [] => .nil
  | i :: l => .cons (by rw [aC]) (rel_ints l)
theorem up_top {K : PySem.W.Frag} {H : Hp} {a : Addr} {ns : List Int} {n : Nat} (hl : ns.length ≤ n) (hf : FrzL K H a (ns.map V.int)) : upSp K (spTop n) [.ref a] H fun v _ => v = .bl true := by
  refine ⟨fun _ => a, [.frz (ns.map EV.int)], [.ref 0], fun v _ => v = .bl true, ⟨fun r o hr => ?_, fun r q o u hr hq fo => ?_⟩, .one (by rw [aC]; exact ⟨Nat.one_pos, rfl⟩), ⟨ns, rfl, rfl, hl, fun _ => rfl⟩, fun v h' e m' H' x E R r => ?_⟩
  · cases r with
    | zero =>
      cases hr
      exact ⟨_, hf, rel_ints ns⟩
    | succ r => simp at hr
  · cases r with
    | zero => cases hr; cases fo
    | succ r => simp at hr
  · subst e
    rw [aC] at r
    exact r
section
variable {P : Program} {w : World} {K : PySem.W.Frag} {mg : Str → Option Value}
theorem topCall {mb : Str → Option Value} {k n : Nat} {fa a : Addr} {fd : FuncData} {x : Str} {s₁ : Shared} {vs : List Value} {ns : List Int} (KX : K.In s₁.heap) (hns : s₁.heap.Ns mainGlobals mg) (hb : s₁.heap.Ns builtinsNs mb)
    (hbb : ∀ x : Str, x ≠ "__name__" → mb x = bootBuiltins x) (hlim : s₁.heap.NoLimit) (hg : s₁.gens = #[]) (ha : s₁.heap.get? a = some { cls := .type "list", data := .seq vs.toArray }) (hi : IntsAre vs ns) (hl : ns.length ≤ n) (hn : n ≤ sizeLine) (hr : Room k callerA)
    (F : ∀ base : Heap, K.In base → base.Ns mainGlobals mg → FnG P w K mg base k fa fd [x] (spTop n)) (hbind : ∀ (s : Shared) (u : Value), BindsTo s fd ⟨[u], []⟩ [(x, u)]) :
    codeAny (model P w) callerA (.call (.ref fa) ⟨[.ref a], []⟩) (fun r s' => r = .ok (.ret (.bool true)) ∧ OldK s₁.heap s'.heap ∧ s'.os = s₁.os ∧ AllBare s'.gens) s₁ := by
  have go : ∀ H : Hp, (∀ b u, H b = some u → b = a ∧ u = .frz { cls := .type "list", data := .seq vs.toArray } (.lst (ns.map V.int))) → (∀ u, H a = some u → K.lookup a = none) → FrzL K H a (ns.map V.int) →
      codeAny (model P w) callerA (.call (.ref fa) ⟨[.ref a], []⟩) (fun r s' => r = .ok (.ret (.bool true)) ∧ OldK s₁.heap s'.heap ∧ s'.os = s₁.os ∧ AllBare s'.gens) s₁ := by
    intro H hH hK hf
    have hok : HOk P w H s₁.heap := fun b u e => by
      obtain ⟨rfl, rfl⟩ := hH b u e
      exact ⟨ha, by rw [List.length_map]; omega, vs, _, vals_ints hi, ha⟩
    have off : ∀ {b : Addr} {o : Obj}, s₁.heap.get? b = some o → (b = a → H a = none) → (hidT s₁.heap H).get? b = some o := fun {b o} e z => hidT_get e (by
      cases q : H b with
      | none => rfl
      | some u =>
        have e2 := (hH b u q).1
        rw [e2, z e2] at q
        cases q)
    have ns' : ∀ {b : Addr} {m : Str → Option Value}, s₁.heap.Ns b m → (hidT s₁.heap H).Ns b m := fun {b m} ⟨o, es, ep, e, d, r⟩ => ⟨o, es, ep, off e (fun z => by
      subst z
      rw [ha] at e
      cases e
      cases (show Data.seq vs.toArray _ = Data.dict es ep from d)), d, r⟩
    have inB : K.In (hidT s₁.heap H) := fun b o e => off (KX b o e) fun z => by
      subst z
      cases q : H b with
      | none => rfl
      | some u => rw [hK u q] at e; cases e
    obtain ⟨ml, l1, l2⟩ := hlim
    have md : Mod K mg (hidT s₁.heap H) := ⟨inB, ns' hns, ⟨mb, ns' hb, hbb⟩, ⟨ml, ns' l1, l2⟩⟩
    have e0 : Env0 P w K mg (hidT s₁.heap H) callerA [] s₁ H := ⟨rfl, md, fun b o e => of_hidT e, Nat.le_of_eq (hidT_size _ _), trivial, fun b hb => (nomatch hb), hok, .of_eq hg⟩
    refine codeAny_mono ((F _ inB (ns' hns)).run callerA [] s₁ H ⟨[.ref a], []⟩ [.ref a] [.ref a] (fun v _ => v = .bl true) hr rfl e0 (hbind s₁ (.ref a)) (.cons rfl .nil) (up_top hl hf)) fun r s' h => ?_
    match r, h with
    | .error _, h => exact h.elim
    | .ok .next, h => exact h.elim
    | .ok .brk, h => exact h.elim
    | .ok .cont, h => exact h.elim
    | .ok (.ret u), ⟨v, H', os, bare, un, hok', rv, q⟩ =>
      have q' : v = .bl true := q
      subst q'
      have hu : u = Value.bool true := rv
      subst hu
      refine ⟨rfl, OldK.of_keep fun b o e => ?_, os, bare⟩
      cases z : H b with
      | none => exact un.keep b o e z (fun y => nomatch y) (fun y => nomatch y)
      | some t =>
        obtain ⟨rfl, rfl⟩ := hH b t z
        have z2 := un.frzs b _ _ z
        obtain ⟨e2, _⟩ := hok' b _ z2
        rw [ha] at e
        cases e
        exact e2
  cases hk : K.lookup a with
  | some o =>
    have e := KX a o hk
    rw [ha] at e
    cases e
    exact go (fun _ => none) (fun b u z => nomatch z) (fun u z => nomatch z) (.inr ⟨_, vs.toArray, _, hk, rfl, rfl, rfl, by rw [List.size_toArray, hi.length]; omega, by simpa using vals_ints hi⟩)
  | none =>
    refine go (fun b => if b = a then some (.frz { cls := .type "list", data := .seq vs.toArray } (.lst (ns.map V.int))) else none) (fun b u z => ?_) (fun _ _ => hk) (.inl ⟨_, if_pos rfl⟩)
    by_cases hb : b = a
    · rw [show (if b = a then some (HO.frz { cls := .type "list", data := .seq vs.toArray } (.lst (ns.map V.int))) else none) = _ from if_pos hb] at z
      cases z
      exact ⟨hb, rfl⟩
    · rw [show (if b = a then some (HO.frz { cls := .type "list", data := .seq vs.toArray } (.lst (ns.map V.int))) else none) = _ from if_neg hb] at z
      cases z
end
theorem walkG {l : PySem.W.OpenLaw} {n k : Nat} {q : Program} {loose : List Str} {XP : (Str → Option Value) → Heap → Prop} {YP : World → Heap → Prop} {d : DefRec} {x : Str}
    (hn : l.most = some n) (hn2 : n ≤ sizeLine) (hdf : d.params.defaults = []) (hr : Room k callerA)
    (F : ∀ (w : World) (mg : Str → Option Value) (fa : Addr) (h : Heap), YP w h → h.Ns mainGlobals mg → mg d.name = some (.ref fa) →
      ∃ (K : PySem.W.Frag) (fd : FuncData), K.In h ∧ (∀ (s : Shared) (u : Value), BindsTo s fd ⟨[u], []⟩ [(x, u)]) ∧ ∀ base : Heap, K.In base → base.Ns mainGlobals mg → FnG l.prog w K mg base k fa fd [x] (spTop n)) :
    PySem.W.WalkO q loose XP YP l.row.toRowW d [] (fun f vs => PySem.call f vs) := by
  refine Att.attach_call hn hdf fun w s₀ s₁ mg mb fa o pm cd doc a vs ns G Y _ _ _ hmg hobj hints hlen hg => ?_
  obtain ⟨K, fd, KX, hb, hF⟩ := F w mg fa _ Y G.T.g hmg
  exact topCall KX G.T.g G.T.b G.T.builtins G.T.nolimit hg hobj hints hlen hn2 hr hF hb
end Y
namespace Y
open PySem PySem.Spec PyProof.Rows L2
section
variable {X : Cx}
theorem bH.length {K : PySem.W.Frag} {m : Nat → Addr} {n : Nat} {H : Hp} : ∀ {es : List (EV × EV)} {vs : List (L2.Key × V)}, bH K m n H es vs → es.length = vs.length
  | [], _, r => by rw [bH] at r; subst r; rfl
  | _ :: _, _, r => by
    rw [bH] at r
    obtain ⟨k, v, l, rfl, _, _, r⟩ := r
    simp [bH.length r]
def dM : LC := fun vs h P => match vs with
  | [.str s] => s.length ≤ sizeLine ∧ P (.int s.length) h
  | [.tup xs] => P (.int xs.length) h
  | [.ktup xs] => P (.int xs.length) h
  | [.ref r] => match h[r]? with
    | some (.lst xs) => P (.int xs.length) h
    | some (.frz xs) => P (.int xs.length) h
    | some (.dic xs) => P (.int xs.length) h
    | _ => False
  | _ => False
theorem iZ : nH X (.builtin "len") dM := by
  refine ⟨_, CallR.or call_len_str (CallR.or call_len_seq call_lenD), ?_⟩
  intro m h H vs xs P Q R r0 q k
  unfold dM at q
  split at q
  · obtain ⟨v, rfl, r⟩ := r0.one_inv
    rw [aC] at r
    subst r
    exact .inl ⟨_, rfl, by rw [S_len]; exact q.1, by rw [S_len]; exact k.same R q.2 (by rw [aC])⟩
  · obtain ⟨v, rfl, r⟩ := r0.one_inv
    rw [aC] at r
    obtain ⟨a, vs, rfl, hs, r⟩ := r
    exact .inr (.inl ⟨a, vs, rfl, .inr (SqT.of hs), by rw [← r.length]; exact k.same R q (by rw [aC])⟩)
  · obtain ⟨v, rfl, r⟩ := r0.one_inv
    rw [aC] at r
    obtain ⟨a, vs, rfl, hs, r⟩ := r
    exact .inr (.inl ⟨a, vs, rfl, .inr hs, by rw [← r.length]; exact k.same R q (by rw [aC])⟩)
  · obtain ⟨v, rfl, r⟩ := r0.one_inv
    rw [aC] at r
    obtain ⟨_, rfl⟩ := r
    split at q
    · rename_i e
      obtain ⟨vs, a, r⟩ := R.obj _ _ e
      exact .inr (.inl ⟨_, vs, rfl, .inl (SqL.of a), by rw [← r.length]; exact k.same R q (by rw [aC])⟩)
    · rename_i e
      obtain ⟨vs, a, r⟩ := R.obj _ _ e
      exact .inr (.inl ⟨_, vs, rfl, .inl a.sql, by rw [← r.length]; exact k.same R q (by rw [aC])⟩)
    · rename_i e
      obtain ⟨vs, a, r⟩ := R.obj _ _ e
      exact .inr (.inr ⟨_, vs, rfl, a, by rw [← r.length]; exact k.same R q (by rw [aC])⟩)
    · exact q.elim
  · exact q.elim
def absE : LC := fun vs h P => match vs with
  | [.int i] => P (.int i.natAbs) h
  | _ => False
theorem lc_abs : nH X (.builtin "abs") absE := by
  refine ⟨_, call_abs, ?_⟩
  intro m h H vs xs P Q R r0 q k
  unfold absE at q
  split at q
  · obtain ⟨v, rfl, r⟩ := r0.one_inv
    rw [aC] at r
    subst r
    rename_i i
    refine ⟨i, rfl, ?_⟩
    have e : (if i < 0 then -i else i) = (i.natAbs : Int) := by split <;> omega
    rw [e]
    exact k.same R q (by rw [aC])
  · exact q.elim
def intOf : LC := fun vs h P => match vs with
  | [.int i] => P (.int i) h
  | [.bl b] => P (.int (if b then 1 else 0)) h
  | _ => False
theorem sY : nH X (.type "int") intOf := by
  refine ⟨_, call_int1, ?_⟩
  intro m h H vs xs P Q R r0 q k
  unfold intOf at q
  split at q
  · obtain ⟨v, rfl, r⟩ := r0.one_inv
    rw [aC] at r
    subst r
    exact .inl ⟨_, rfl, k.same R q (by rw [aC])⟩
  · obtain ⟨v, rfl, r⟩ := r0.one_inv
    rw [aC] at r
    subst r
    exact .inr ⟨_, rfl, k.same R q (by rw [aC])⟩
  · exact q.elim
def rRepr (K : PySem.W.Frag) : List V → Hp → VK → Prop := fun xs H Q => ∃ x d, xs = [x] ∧ Dp K H x d ∧ d.depth ≤ 60 ∧ d.plain = true ∧ d.showable = true ∧ d.shown.length ≤ sizeLine ∧ Q (.str d.shown) H
mutual
theorem rQ : ∀ d : PyData, d.plain = true → d.hasDict = false
  | .none, _ => by simp only [PyData.hasDict]
  | .bool _, _ => by simp only [PyData.hasDict]
  | .int _, _ => by simp only [PyData.hasDict]
  | .str _, _ => by simp only [PyData.hasDict]
  | .list xs, h => by simp only [PyData.hasDict]; exact plain_noDicts xs (by simpa [PyData.plain] using h)
  | .tuple xs, h => by simp only [PyData.hasDict]; exact plain_noDicts xs (by simpa [PyData.plain] using h)
  | .dict _, h => by simp [PyData.plain] at h
theorem plain_noDicts : ∀ ds : List PyData, PyData.plainAll ds = true → PyData.hasDictAll ds = false
  | [], _ => by simp only [PyData.hasDictAll]
  | d :: ds, h => by
    have h' : d.plain = true ∧ PyData.plainAll ds = true := by simpa [PyData.plainAll] using h
    simp only [PyData.hasDictAll, rQ d h'.1, plain_noDicts ds h'.2, Bool.or_self]
end
theorem call_reprD (hG : X.A.guards = some []) (hu : X.A.units + 64 < cLine) : CallR X (.builtin "repr") (rRepr X.K) := by
  intro pins s σ H xs us Q I r q
  obtain ⟨x, d, rfl, hd, dd, pd, sd, zd, q⟩ := q
  obtain ⟨u, rfl, ru⟩ := vals1 r
  cases hd with
  | non =>
    cases ru
    simp only [PyData.shown] at q
    exact PySem.P.repr_of_none ⟨.str _, H, I.tok _, ⟨_, rfl⟩, q⟩
  | bl b =>
    cases ru
    simp only [PyData.shown] at q
    exact PySem.P.repr_of_bool ⟨.str _, H, I.tok _, ⟨_, rfl⟩, q⟩
  | int i =>
    obtain ⟨t, rfl⟩ := ru
    simp only [PyData.shown] at q
    exact PySem.P.repr_of_int (by simpa [PyData.showable] using sd) ⟨.str _, H, I.tok _, ⟨_, rfl⟩, q⟩
  | str z =>
    obtain ⟨t, rfl⟩ := ru
    simp only [PyData.shown] at q zd
    exact PySem.P.repr_of_str ⟨.str _, H, I.tok _, ⟨_, rfl⟩, q⟩ zd
  | lst hs ha =>
    cases ru
    obtain ⟨as, rd⟩ := Dp.reads I _ _ _ (.lst hs ha) rfl
    exact PySem.repr_of_reads' rd sd (fun z => by rw [rQ _ pd] at z; cases z) hG (by omega) (fun _ _ e => e) (fun h' u tk kk => ⟨.str _, H, I.kept kk, ⟨_, rfl⟩, q⟩) zd
  | tup hs ha =>
    cases ru
    obtain ⟨as, rd⟩ := Dp.reads I _ _ _ (.tup hs ha) rfl
    exact PySem.repr_of_reads' rd sd (fun z => by rw [rQ _ pd] at z; cases z) hG (by omega) (fun _ _ e => e) (fun h' u tk kk => ⟨.str _, H, I.kept kk, ⟨_, rfl⟩, q⟩) zd
def listOf : LC := fun vs h P => match vs with
  | [.tup xs] => P (.ref h.length) (h ++ [.lst xs])
  | [.ref r] => match h[r]? with
    | some (.lst xs) => P (.ref h.length) (h ++ [.lst xs])
    | some (.frz xs) => P (.ref h.length) (h ++ [.lst xs])
    | _ => False
  | _ => False
theorem lc_list : nH X (.type "list") listOf := by
  refine ⟨_, call_list_of, ?_⟩
  intro m h H vs xs P Q R r0 q k
  unfold listOf at q
  split at q
  · obtain ⟨v, rfl, r⟩ := r0.one_inv
    rw [aC] at r
    obtain ⟨a, vs, rfl, hs, r⟩ := r
    exact ⟨a, vs, rfl, .inr (SqT.of hs), fun l hl => k.lst R q r hl⟩
  · obtain ⟨v, rfl, r⟩ := r0.one_inv
    rw [aC] at r
    obtain ⟨_, rfl⟩ := r
    split at q
    · rename_i e
      obtain ⟨vs, a, r⟩ := R.obj _ _ e
      exact ⟨_, vs, rfl, .inl (SqL.of a), fun l hl => k.lst R q r hl⟩
    · rename_i e
      obtain ⟨vs, a, r⟩ := R.obj _ _ e
      exact ⟨_, vs, rfl, .inl a.sql, fun l hl => k.lst R q r hl⟩
    · exact q.elim
  · exact q.elim
def tupleOf : LC := fun vs h P => match vs with
  | [.tup xs] => P (.tup xs) h
  | [.ref r] => match h[r]? with
    | some (.lst xs) => P (.tup xs) h
    | some (.frz xs) => P (.tup xs) h
    | _ => False
  | _ => False
theorem lc_tuple : nH X (.type "tuple") tupleOf := by
  refine ⟨_, call_tuple_of, ?_⟩
  intro m h H vs xs P Q R r0 q k
  unfold tupleOf at q
  split at q
  · obtain ⟨v, rfl, r⟩ := r0.one_inv
    have r0 := r
    rw [aC] at r
    obtain ⟨a, vs, rfl, hs, r⟩ := r
    exact ⟨a, vs, rfl, .inr ⟨(SqT.of hs), k.same R q r0⟩⟩
  · obtain ⟨v, rfl, r⟩ := r0.one_inv
    rw [aC] at r
    obtain ⟨_, rfl⟩ := r
    split at q
    · rename_i e
      obtain ⟨vs, a, r⟩ := R.obj _ _ e
      exact ⟨_, vs, rfl, .inl ⟨SqL.of a, fun l hl => k.tup R q r hl⟩⟩
    · rename_i e
      obtain ⟨vs, a, r⟩ := R.obj _ _ e
      exact ⟨_, vs, rfl, .inl ⟨a.sql, fun l hl => k.tup R q r hl⟩⟩
    · exact q.elim
  · exact q.elim
end
def jB (v : EV) (h : EH) (f : Nat → List EV → Prop) : Prop := match v with
  | .ref r => match h[r]? with
    | some (.lst xs) => f r xs
    | _ => False
  | _ => False
section
variable {X : Cx}
theorem tX {K : PySem.W.Frag} {m : Nat → Addr} {h : EH} {H : Hp} {v : EV} {x : V} {f : Nat → List EV → Prop} (R : cC K m h H) (r : aC K m h.length H v x) (q : jB v h f) : ∃ i xs vs, h[i]? = some (.lst xs) ∧ x = .ref (m i) ∧ H (m i) = some (.lst vs) ∧ aO K m h.length H xs vs ∧ f i xs := by
  unfold jB at q
  split at q
  · rw [aC] at r
    obtain ⟨_, rfl⟩ := r
    split at q
    · rename_i e
      obtain ⟨vs, a, r⟩ := R.obj _ _ e
      exact ⟨_, _, vs, e, rfl, a, r, q⟩
    · exact q.elim
  · exact q.elim
theorem Kon.upd {K : PySem.W.Frag} {m : Nat → Addr} {H : Hp} {h : EH} {P : EK} {Q : VK} (k : Kon K m h.length H P Q) (R : cC K m h H) {i : Nat} {xs ys : List EV} {us : List V} {v : EV} {x : V} (e : h[i]? = some (.lst xs)) (p : P v (h.set i (.lst ys))) (r : aC K m h.length H v x) (ru : aO K m h.length H ys us) : Q x (upd H (m i) (.lst us)) := by
  have E : Ex K m h.length H m (h.set i (.lst ys)).length (L2.upd H (m i) (.lst us)) := Ex.write R e
  exact k _ _ p m _ _ E (R.write e ⟨us, upd_same, aO.ex E _ _ ru⟩) (aC.ex E _ _ r)
def fL : LM := fun v vs h P => match vs with
  | [y] => jB v h fun r xs => xs.length < sizeLine ∧ P .non (h.set r (.lst (xs ++ [y])))
  | _ => False
theorem nU {K : PySem.W.Frag} : LMl K "list" rAppend fL := by
  intro m h H v x vs xs P Q R rx rv q k
  unfold fL at q
  split at q
  · obtain ⟨y, rfl, ry⟩ := rv.one_inv
    obtain ⟨i, es, us, e, rfl, a, r, q⟩ := tX R rx q
    exact ⟨_, us, y, rfl, rfl, a, by rw [← r.length]; exact q.1, k.upd R e q.2 (by rw [aC]) (r.app (.one ry))⟩
  · exact q.elim
def insertE : LM := fun v vs h P => match vs with
  | [.int i, y] => jB v h fun r xs => xs.length < sizeLine ∧ 0 ≤ i ∧ i < 2 ^ 63 ∧ P .non (h.set r (.lst (xs.take i.toNat ++ [y] ++ xs.drop i.toNat)))
  | _ => False
theorem lm_insert {K : PySem.W.Frag} : LMl K "list" (fun x vs H Q => ∃ (l : Addr) (xs : List V) (i : Int) (y : V), x = .ref l ∧ vs = [.int i, y] ∧ H l = some (.lst xs) ∧ xs.length < sizeLine ∧ 0 ≤ i ∧ i < 2 ^ 63 ∧
    Q .non (upd H l (.lst (xs.take i.toNat ++ [y] ++ xs.drop i.toNat)))) insertE := by
  intro m h H v x vs xs P Q R rx rv q k
  unfold insertE at q
  split at q
  · obtain ⟨z, y, rfl, rz, ry⟩ := rv.two_inv
    rw [aC] at rz
    subst rz
    obtain ⟨i, es, us, e, rfl, a, r, q⟩ := tX R rx q
    exact ⟨_, us, _, y, rfl, rfl, a, by rw [← r.length]; exact q.1, q.2.1, q.2.2.1, k.upd R e q.2.2.2 (by rw [aC]) (((r.take _).app (.one ry)).app (r.drop _))⟩
  · exact q.elim
def rZ : LM := fun v vs h P => match vs with
  | [.ref b] => jB v h fun r xs => jB (.ref b) h fun _ ys => xs.length + ys.length ≤ sizeLine ∧ P .non (h.set r (.lst (xs ++ ys)))
  | _ => False
theorem lm_extend {K : PySem.W.Frag} : LMl K "list" rExtend rZ := by
  intro m h H v x vs xs P Q R rx rv q k
  unfold rZ at q
  split at q
  · obtain ⟨y, rfl, ry⟩ := rv.one_inv
    obtain ⟨i, es, us, e, rfl, a, r, q⟩ := tX R rx q
    obtain ⟨j, fs, ws, e2, rfl, a2, r2, q⟩ := tX R ry q
    exact ⟨_, _, us, ws, rfl, rfl, a, a2, by rw [← r.length, ← r2.length]; exact q.1, k.upd R e q.2 (by rw [aC]) (r.app r2)⟩
  · exact q.elim
def repN {α : Type} (k : Int) (xs : List α) : List α := (List.replicate k.toNat xs).flatten
def mulE : LO := fun v w h P => match v, w with
  | .int i, .int j => PySem.IntMulOk i j ∧ P (.int (i * j)) h
  | .str s, .int k => (0 < k ∧ k < 2 ^ 24 ∧ s.length * k.toNat ≤ 1000000) ∧ P (.str (repN k s)) h
  | .tup xs, .int k => (xs ≠ [] ∧ 2 ≤ k ∧ k ≤ 1000 ∧ xs.length ≤ 1000) ∧ P (.tup (repN k xs)) h
  | .ref r, .int k => match h[r]? with
    | some (.lst xs) => (-(2 ^ 63) ≤ k ∧ k < 2 ^ 63 ∧ xs.length * k.toNat ≤ sizeLine) ∧ P (.ref h.length) (h ++ [.lst (repN k xs)])
    | _ => False
  | _, _ => False
theorem foldl_rep (x : Array Nat) : ∀ (k : Nat) (a : Array Nat), (List.replicate k x).foldl (· ++ ·) a = a ++ (List.replicate k x.toList).flatten.toArray
  | 0, a => by simp
  | k + 1, a => by
    rw [List.replicate_succ, List.foldl_cons, foldl_rep x k, List.replicate_succ, List.flatten_cons]
    apply Array.ext'
    simp
def rMulS : R2 := fun x y H Q => ∃ (s : List Nat) (k : Int), x = .str (S s) ∧ y = .int k ∧ (0 < k ∧ k < 2 ^ 24 ∧ s.length * k.toNat ≤ 1000000) ∧ Q (.str (S (repN k s))) H
theorem op_mulS : OpR X (binaryOp .Mult) rMulS := by
  intro pins s σ H x y v u Q I rx ry q
  obtain ⟨l, k, rfl, rfl, ⟨h0, h1, hz⟩, q⟩ := q
  obtain ⟨t, rfl⟩ := rx
  obtain ⟨t', rfl⟩ := ry
  have e : (S l).length = l.length := S_len l
  have fin : ∀ tk, EP X pins σ Q (.str (S (repN k l)) tk) { s with toks := tk + 1 } := fun tk => ⟨.str _, H, I.tok _, ⟨_, rfl⟩, q⟩
  refine PySem.P.mul_str ?_ (fun _ _ z => ?_) (fun _ _ => ?_) ?_
  · have a : ¬ k < -(2 ^ 63 : Int) := by omega
    have b : ¬ k ≥ 2 ^ 63 := by omega
    rw [decide_eq_false a, decide_eq_false b]; rfl
  · rw [e] at z
    have h2 : (l.length : Int) * k ≤ 1000000 := by
      have : ((l.length * k.toNat : Nat) : Int) ≤ 1000000 := by omega
      rw [Int.natCast_mul, Int.toNat_of_nonneg (by omega)] at this
      exact this
    have h3 : (l.length : Int) ≤ 1000000 := by
      have : (l.length : Int) * 1 ≤ (l.length : Int) * k := Int.mul_le_mul_of_nonneg_left (by omega) (by omega)
      omega
    have h4 : (2 ^ 63 - 1 : Int) / k ≥ (2 ^ 63 - 1 : Int) / 2 ^ 24 := by
      rw [ge_iff_le, Int.le_ediv_iff_mul_le (by omega)]
      have : (2 ^ 63 - 1 : Int) / 2 ^ 24 * k ≤ (2 ^ 63 - 1 : Int) / 2 ^ 24 * 2 ^ 24 := Int.mul_le_mul_of_nonneg_left (by omega) (by decide)
      have h5 : (2 ^ 63 - 1 : Int) / 2 ^ 24 * 2 ^ 24 ≤ 2 ^ 63 - 1 := by decide
      omega
    have h6 : (2 ^ 63 - 1 : Int) / 2 ^ 24 = 549755813887 := by decide
    omega
  · rw [e]
    unfold Builtin.Str.tooLong
    have : sizeLine = 16777216 := by decide
    rw [decide_eq_false]
    omega
  · rw [if_neg (by omega)]
    by_cases hk : (k == 1 || (S l).length == 0) = true
    · rw [if_pos hk]
      have e2 : repN k l = l := by
        rw [e, Bool.or_eq_true, beq_iff_eq, beq_iff_eq] at hk
        rcases hk with rfl | hk
        · simp [repN]
        · have : l = [] := List.length_eq_zero_iff.mp hk
          subst this
          simp [repN]
      rw [e2] at q
      exact ⟨.str _, H, I, ⟨_, rfl⟩, q⟩
    · rw [if_neg hk]
      have e2 : (⟨(List.replicate k.toNat (S l).cps).foldl (· ++ ·) #[]⟩ : Str) = S (repN k l) := by
        rw [foldl_rep]
        simp [repN]
      rw [e2]
      exact ⟨by
        have e3 : (S (repN k l)).length = l.length * k.toNat := by
          rw [S_len, repN, List.length_flatten, List.map_replicate, List.sum_replicate_nat]
          exact Nat.mul_comm _ _
        rw [e3]
        have : sizeLine = 16777216 := by decide
        omega, fin _⟩
theorem op_mulO : OpR X (binaryOp .Mult) (rI PySem.IntMulOk fun i j => .int (i * j)) := opI fun _ _ _ _ _ _ _ hc q => mul_int q hc
theorem lo_mul : oA X (binaryOp .Mult) mulE := by
  refine ⟨_, OpR.or op_mulO (OpR.or op_mulS (OpR.or op_repT op_rep)), ?_⟩
  intro m h H v w x y P Q R rx ry q k
  unfold mulE at q
  split at q
  · rw [aC] at rx
    rw [aC] at ry
    exact .inl ⟨_, _, rx, ry, q.1, k.same R q.2 (by rw [aC])⟩
  · rw [aC] at rx
    rw [aC] at ry
    exact .inr (.inl ⟨_, _, rx, ry, q.1, k.same R q.2 (by rw [aC])⟩)
  · rw [aC] at rx
    rw [aC] at ry
    obtain ⟨a, us, rfl, hs, r⟩ := rx
    subst ry
    refine .inr (.inr (.inl ⟨a, _, us, rfl, rfl, (SqT.of hs), ?_, q.1.2.1, q.1.2.2.1, by rw [← r.length]; exact q.1.2.2.2, fun p hp => k.tup R q.2 ?_ hp⟩))
    · rintro rfl
      have := r.length
      exact q.1.1 (List.length_eq_zero_iff.mp this)
    · unfold repN
      generalize Int.toNat _ = n
      induction n with
      | zero => exact .nil
      | succ n ih => rw [List.replicate_succ, List.replicate_succ, List.flatten_cons, List.flatten_cons]; exact r.app ih
  · rw [aC] at rx
    rw [aC] at ry
    obtain ⟨_, rfl⟩ := rx
    subst ry
    split at q
    · rename_i e
      obtain ⟨us, a, r⟩ := R.obj _ _ e
      refine .inr (.inr (.inr ⟨_, _, us, rfl, rfl, a, q.1.1, q.1.2.1, by rw [← r.length]; exact q.1.2.2, fun p hp => k.lst R q.2 ?_ hp⟩))
      unfold repN
      generalize Int.toNat _ = n
      induction n with
      | zero => exact .nil
      | succ n ih => rw [List.replicate_succ, List.replicate_succ, List.flatten_cons, List.flatten_cons]; exact r.app ih
    · exact q.elim
  · exact q.elim
theorem lookup_mem {α β : Type} [BEq α] [LawfulBEq α] {l : List (α × β)} {a : α} {b : β} (h : l.lookup a = some b) : (a, b) ∈ l := by
  induction l with
  | nil => cases h
  | cons p l ih =>
    obtain ⟨x, y⟩ := p
    rw [List.lookup_cons] at h
    cases e : a == x with
    | true =>
      rw [e] at h
      cases h
      rw [beq_iff_eq.mp e]
      exact List.mem_cons_self
    | false =>
      rw [e] at h
      exact List.mem_cons_of_mem _ (ih h)
end
end Y
namespace Y
open PySem PySem.Spec PyProof.Rows L2
inductive Sc where
  | lst (a : Addr) | tup (a : Addr) | txt (x : Str)
def Sc.val : Sc → V
  | .lst a => .ref a
  | .tup a => .ref a
  | .txt x => .str x
def Sc.is (K : PySem.W.Frag) (H : Hp) : Sc → List V → Prop
  | .lst a, xs => SqL K H a xs
  | .tup a, xs => SqT K H a xs
  | .txt x, xs => xs = x.cps.toList.map fun c => V.str ⟨#[c]⟩
def Sc.cell : Sc → List Addr
  | .lst a => [a]
  | .tup a => [a]
  | .txt _ => []
def Sc.st (it : Addr) (i : Nat) (h : Heap) : Sc → Prop
  | .lst a => h.IsListIter it a i
  | .tup a => h.IsTupleIter it a i
  | .txt x => ∃ t, h.IsStrIter it (strIterType x) x t i
theorem Sc.st_obj {it : Addr} {i : Nat} {h : Heap} : ∀ {sc : Sc}, sc.st it i h → ∃ o, h.get? it = some o ∧ ∀ v, o.data ≠ .cell v
  | .lst _, ⟨o, e, _, d⟩ => ⟨o, e, fun v q => by rw [d] at q; cases q⟩
  | .tup _, ⟨o, e, _, d⟩ => ⟨o, e, fun v q => by rw [d] at q; cases q⟩
  | .txt _, ⟨t, o, e, _, d⟩ => ⟨o, e, fun v q => by rw [d] at q; cases q⟩
theorem Sc.st_at {it : Addr} {i : Nat} {h h' : Heap} (k : ∀ o, h.get? it = some o → h'.get? it = some o) : ∀ {sc : Sc}, sc.st it i h → sc.st it i h'
  | .lst _, ⟨o, e, r⟩ => ⟨o, k o e, r⟩
  | .tup _, ⟨o, e, r⟩ => ⟨o, k o e, r⟩
  | .txt _, ⟨t, o, e, r⟩ => ⟨t, o, k o e, r⟩
section
variable {X : Cx} {pins : List (Addr × Obj)} {s : Shared} {σ : L2.St} {H : Hp}
theorem Vals.back {xs : List V} {us : List Value} {i : Nat} {u : Value} (r : Vals xs us) (e : us[i]? = some u) : ∃ x, xs[i]? = some x ∧ RelV x u := by
  have hl := (List.getElem?_eq_some_iff.mp e).1
  have l := r.length
  have h2 : xs[i]? = some xs[i] := List.getElem?_eq_getElem (by omega)
  obtain ⟨w, hw, rw'⟩ := r.get h2
  rw [e] at hw
  cases hw
  exact ⟨_, h2, rw'⟩
theorem Sc.draws {sc : Sc} {xs : List V} {it : Addr} {i : Nat} (I : Inv X pins σ H s) (hc : X.calm = true) (hq : sc.is X.K H xs) (hn : it ∉ sc.cell) (st : sc.st it i s.heap) :
    ∃ P St, Draws X.prog X.w X.A.in1 it (it :: sc.cell) xs.length P St ∧ St i s.heap ∧ (∀ j u, P j u → ∃ v, xs[j]? = some v ∧ RelV v u) ∧ ∀ j h, St j h → sc.st it j h := by
  have hh : X.A.in1.handled = none := I.ok.hd hc
  match sc, hq, hn, st with
  | .lst a, hq, hn, st =>
    obtain ⟨its, rv, p, hz⟩ := I.list hq
    rw [show xs.length = its.toArray.size by simpa using rv.length]
    exact ⟨_, _, Draws.list hh it a (fun z => hn (by simp [Sc.cell, z])) its.toArray, ⟨st, p.isList⟩, fun j u e => Vals.back rv (by simpa using e), fun j h e => e.1⟩
  | .tup a, hq, hn, st =>
    obtain ⟨its, rv, p, hz⟩ := I.tuple hq
    rw [show xs.length = its.toArray.size by simpa using rv.length]
    exact ⟨_, _, Draws.tuple hh it a (fun z => hn (by simp [Sc.cell, z])) its.toArray, ⟨st, p⟩, fun j u e => Vals.back rv (by simpa using e), fun j h e => e.1⟩
  | .txt x, hq, hn, ⟨t, st⟩ =>
    have hq' : xs = x.cps.toList.map fun c => V.str ⟨#[c]⟩ := hq
    subst hq'
    rw [show (x.cps.toList.map fun c => V.str ⟨#[c]⟩).length = x.cps.size by simp]
    exact ⟨_, _, Draws.text hh it x t, st, fun j u ⟨c, t', e, eu⟩ => ⟨_, by rw [List.getElem?_map, Array.getElem?_toList, e]; rfl, show RelV (.str ⟨#[c]⟩) u from ⟨t', eu⟩⟩, fun j h e => ⟨t, e⟩⟩
theorem Sc.is_inj {sc : Sc} {xs ys : List V} (I : Inv X pins σ H s) (h : sc.is X.K H xs) (h' : sc.is X.K H ys) : xs = ys := by
  match sc, h, h' with
  | .lst a, h, h' => exact I.list_inj h h'
  | .tup a, h, h' => exact I.tuple_inj h h'
  | .txt a, h, h' => exact Eq.trans h (Eq.symm h')
end
def ItN (K : PySem.W.Frag) (a : Sc) (k : Int) : It :=
  ⟨fun i H => ∃ (xs : List V) (x : V), a.is K H xs ∧ xs[i]? = some x,
    fun i H v H' => ∃ T x, v = .ref T ∧ H T = none ∧ H' = upd H T (.tup [.int (k + (i : Nat)), x]) ∧ ∀ xs, a.is K H xs → xs[i]? = some x,
    fun i H => ∃ xs : List V, a.is K H xs ∧ i = xs.length⟩
section
variable {P : Program} {w : World} {K : PySem.W.Frag} {elts : List Expr} {kk : Nat} {tpos : Pos}
theorem turnN {a : Sc} {k : Int} {e it : Addr} (hne : e ≠ it) (hef : e ∉ it :: a.cell) (na : it ∉ a.cell) :
    Turn P w K (.Tuple elts kk tpos) (ItN K a k) [e, it] e (fun i h => (∃ old, IsEnum h e it (k + ((i : Nat) : Int)) old) ∧ a.st it i h) where
  mem := by simp
  obj := fun i h st b hb => by
    obtain ⟨⟨old, he⟩, s1⟩ := st
    have e' : b = e ∨ b = it := by simpa using hb
    rcases e' with z | z
    · rw [z]; exact ⟨_, he, fun v q => nomatch q⟩
    · rw [z]; exact Sc.st_obj s1
  keep := fun i h h' st k => let ⟨⟨old, he⟩, hi⟩ := st; ⟨⟨old, k e (by simp) _ he⟩, Sc.st_at (fun o q => k it (by simp) o q) hi⟩
  item := by
    intro X hP hw hK hc i pins s σ H E I hf st hg
    subst hP hw hK
    obtain ⟨⟨old, he⟩, s1⟩ := st
    obtain ⟨xs, x, hq, hx⟩ := hg
    obtain ⟨P1, St1, D1, t1, p1, b1⟩ := Sc.draws I hc hq na s1
    have lx := (List.getElem?_eq_some_iff.mp hx).1
    have hel : e < s.heap.objs.size := Heap.lt_size he
    refine wpAny_pyNext_enum_itemC D1 he t1 lx hne hef fun u h' tk hu ho t1' hT hsz hk => ?_
    obtain ⟨x', hx', ru⟩ := p1 _ _ hu
    rw [hx] at hx'
    cases hx'
    refine ⟨_, rfl, wpAny_letOwnedTupleGo_enum (s := { s with heap := h', toks := tk + 1 }) ho fun h'' he' sb => ?_⟩
    have hT2 : h''.get? s.heap.objs.size = some { cls := .type "tuple", data := .seq #[.int (k + (i : Nat)) tk, u] } := (sb.2 _ (Nat.ne_of_gt hel)).trans hT
    have new : ObjOk X.prog X.w (upd H s.heap.objs.size (.tup [.int (k + (i : Nat)), x])) h'' s.heap.objs.size (.tup [.int (k + (i : Nat)), x]) :=
      ⟨by show 2 ≤ sizeLine; decide, [.int (k + (i : Nat)) tk, u], .cons ⟨_, rfl⟩ (.cons ru .nil), ⟨_, hT2, rfl, _, rfl⟩⟩
    have I1 : Inv X pins σ (upd H s.heap.objs.size (.tup [.int (k + (i : Nat)), x])) { s with heap := h'', toks := tk + 1 } :=
      I.turnedNew (ch := [e, it]) (fun b ob hb q => (sb.2 b (fun z => hb (by simp [z]))).trans (hk b ob (fun z => hb (by simp [z])) (fun z => hb (by simp [z])) q)) hf (Nat.le_refl _) new
    refine ⟨.ref s.heap.objs.size, _, I1, rfl, ⟨_, x, rfl, I.hok.fresh (Nat.le_refl _), rfl, fun ys hy => by rw [Sc.is_inj I hy hq]; exact hx⟩, ⟨⟨u, ?_⟩, Sc.st_at (fun o q => (sb.2 it (Ne.symm hne)).trans q) (b1 _ _ t1')⟩, fun b hb => ?_⟩
    · have e1 : k + ((i + 1 : Nat) : Int) = k + (i : Int) + 1 := by omega
      rw [e1]; exact he'
    · have hb' : b < s.heap.objs.size := by
        have e' : b = e ∨ b = it := by simpa using hb
        rcases e' with z | z
        · rw [z]; exact hel
        · rw [z]; obtain ⟨_, e1, _⟩ := Sc.st_obj s1; exact Heap.lt_size e1
      rw [upd_ne (Nat.ne_of_lt hb')]
      exact (hf b hb).1
  done := by
    intro X hP hw hK hc i pins s σ H E I hf st hg
    subst hP hw hK
    obtain ⟨⟨old, he⟩, s1⟩ := st
    obtain ⟨xs, hq, hx⟩ := hg
    obtain ⟨P1, St1, D1, t1, p1, b1⟩ := Sc.draws I hc hq na s1
    subst hx
    obtain ⟨f0, f1, f2, f3, f4, f5⟩ := hf it (by simp)
    exact wpAny_pyNext_enum_endD D1 he t1 fun h' eb => ⟨rfl, I.turned (t' := s.toks) (fun b o hb q => eb b o hb q) f0 f1 f3 f4 f5⟩
  self := fun A i s Q E st h => let ⟨⟨_, he⟩, _⟩ := st; wpAny_pyIter_enum he h
end
section
variable {X : Cx} {e e2 : Expr} {ta : TA} {p pos tpos : Pos} {elts : List Expr} {kk : Nat}
end
def srcE (v : EV) (h : EH) (P : (EH → Prop) → List EV → Prop) : Prop := match v with
  | .ref r => match h[r]? with
    | some (.lst xs) => P (fun h' => h'[r]? = some (.lst xs)) xs
    | some (.frz xs) => P (fun h' => h'[r]? = some (.frz xs)) xs
    | _ => False
  | .tup xs => P lTrue xs
  | .ktup xs => P lTrue xs
  | .str s => P lTrue (s.map fun c => .str [c])
  | _ => False
def jj (ta : LA) : LI := fun env h P => ta env h fun vs h1 => match vs with
  | [x, y] => srcE x h1 fun g xs => srcE y h1 fun g2 ys => P (fun h' => g h' ∧ g2 h') (List.zipWith (fun a b => EV.tup [a, b]) xs ys) h1
  | _ => False
theorem rel_pair {K : PySem.W.Frag} {m : Nat → Addr} {h : EH} {H : Hp} {a b : EV} {x y : V} {T : Addr} (R : cC K m h H) (hT : H T = none) (r1 : aC K m h.length H a x) (r2 : aC K m h.length H b y) :
    Ex K m h.length H m h.length (upd H T (.tup [x, y])) ∧ cC K m h (upd H T (.tup [x, y])) ∧ aC K m h.length (upd H T (.tup [x, y])) (.tup [a, b]) (.ref T) := by
  have E : Ex K m h.length H m h.length (upd H T (.tup [x, y])) := Ex.tup1 hT
  refine ⟨E, R.tup hT, ?_⟩
  rw [aC]
  exact ⟨T, [x, y], rfl, upd_same, .cons (aC.ex E _ _ r1) (.one (aC.ex E _ _ r2))⟩
theorem zw_at {α β γ : Type} {f : α → β → γ} {xs : List α} {ys : List β} {i : Nat} {z : γ} (e : (List.zipWith f xs ys)[i]? = some z) : ∃ a b, xs[i]? = some a ∧ ys[i]? = some b ∧ z = f a b := by
  rw [List.getElem?_zipWith] at e
  split at e
  · rename_i a b ha hb
    cases e
    exact ⟨a, b, ha, hb, rfl⟩
  · cases e
section
variable {X : Cx} {e e2 : Expr} {ta : LA} {p pos tpos : Pos} {elts : List Expr} {kk : Nat}
end
def jc (ta : LT) : LT := fun env h P => ta env h fun v h1 => match v with
  | .int i => P (.int (-i)) h1
  | _ => False
theorem loop_ind {g : EH → Prop} {p : Pat} {tb : LS} {D : qm} (I : List EV → En → EH → Prop)
    (stop : ∀ env h, I [] env h → g h ∧ D.nx env h)
    (turn : ∀ x xs env h (k : En → EH → Prop), I (x :: xs) env h → (∀ env' h', I xs env' h' → k env' h') → g h ∧ gq h p x env fun env2 => tb { D with nx := k, ct := k, bk := D.nx } env2 h) :
    ∀ xs env h, I xs env h → loopE g p tb D xs env h
  | [], env, h, i => by rw [loopE]; exact stop env h i
  | x :: xs, env, h, i => by rw [loopE]; exact turn x xs env h _ i fun env' h' i' => loop_ind I stop turn xs env' h' i'
theorem lc_ind {g : EH → Prop} {p : Pat} {tt : LTt} {te : LT} {d : Nat} {env : En} {P : EK} (I : List EV → List EV → EH → Prop)
    (stop : ∀ acc h, I [] acc h → h[d]? = some (.lst acc) → g h ∧ P (.ref d) h)
    (turn : ∀ x xs acc h (ky : EK) (kn : EH → Prop), I (x :: xs) acc h → h[d]? = some (.lst acc) →
      (∀ y h', h'[d]? = some (.lst acc) → acc.length < sizeLine → I xs (acc ++ [y]) (h'.set d (.lst (acc ++ [y]))) → ky y h') → (∀ h', h'[d]? = some (.lst acc) → I xs acc h' → kn h') →
      g h ∧ gq h p x env fun env2 => tt env2 h fun b h3 => if b = true then te env2 h3 ky else kn h3) :
    ∀ xs acc h, h[d]? = some (.lst acc) → I xs acc h → lcE g p tt te d env P xs h
  | [], acc, h, e, i => by rw [lcE]; exact stop acc h i e
  | x :: xs, acc, h, e, i => by
    rw [lcE]
    refine turn x xs acc h _ _ i e (fun y h' e' hl i' => ?_) fun h' e' i' => lc_ind I stop turn xs acc h' e' i'
    rw [e']
    refine ⟨hl, lc_ind I stop turn xs _ _ ?_ i'⟩
    exact List.getElem?_set_self (List.getElem?_eq_some_iff.mp e').1
theorem bK {h : EH} {o : EO} : (h ++ [o])[h.length]? = some o := by simp
theorem new_set {h : EH} {o u : EO} : (h ++ [o]).set h.length u = h ++ [u] := by simp
theorem lc_plain {g : EH → Prop} {p : Pat} {tt : LTt} {te : LT} {env : En} {P : EK} {h : EH} (f : EV → Option EV) (xs : List EV) (hl : xs.length ≤ sizeLine) (hg : ∀ acc, g (h ++ [.lst acc]))
    (step : ∀ x ∈ xs, ∀ acc (ky : EK) (kn : EH → Prop), (∀ y, f x = some y → ky y (h ++ [.lst acc])) → (f x = none → kn (h ++ [.lst acc])) →
      gq (h ++ [.lst acc]) p x env fun env2 => tt env2 (h ++ [.lst acc]) fun b h3 => if b = true then te env2 h3 ky else kn h3)
    (fin : P (.ref h.length) (h ++ [.lst (xs.filterMap f)])) : lcE g p tt te h.length env P xs (h ++ [.lst []]) := by
  have key : ∀ ys acc, (∀ x ∈ ys, x ∈ xs) → acc.length + ys.length ≤ xs.length → acc ++ ys.filterMap f = xs.filterMap f → lcE g p tt te h.length env P ys (h ++ [.lst acc]) := by
    intro ys
    induction ys with
    | nil =>
      intro acc _ _ e
      rw [lcE]
      rw [List.filterMap_nil, List.append_nil] at e
      exact ⟨hg _, by rw [e]; exact fin⟩
    | cons x ys ih =>
      intro acc hm hz e
      rw [lcE]
      refine ⟨hg _, step x (hm x (by simp)) acc _ _ (fun y hy => ?_) fun hy => ?_⟩
      · rw [bK]
        simp only [List.length_cons] at hz
        refine ⟨by omega, ?_⟩
        rw [new_set]
        refine ih _ (fun z hz' => hm z (List.mem_cons_of_mem _ hz')) (by simp; omega) ?_
        rw [List.filterMap_cons, hy] at e
        simpa using e
      · simp only [List.length_cons] at hz
        refine ih _ (fun z hz' => hm z (List.mem_cons_of_mem _ hz')) (by omega) ?_
        rw [List.filterMap_cons, hy] at e
        exact e
  exact key xs [] (fun _ h => h) (by simp) (by simp)
theorem lc_map {g : EH → Prop} {p : Pat} {te : LT} {env : En} {P : EK} {h : EH} (f : EV → EV) (xs : List EV) (hl : xs.length ≤ sizeLine) (hg : ∀ acc, g (h ++ [.lst acc]))
    (step : ∀ x ∈ xs, ∀ acc (ky : EK), ky (f x) (h ++ [.lst acc]) → gq (h ++ [.lst acc]) p x env fun env2 => te env2 (h ++ [.lst acc]) ky)
    (fin : P (.ref h.length) (h ++ [.lst (xs.map f)])) : lcE g p rY te h.length env P xs (h ++ [.lst []]) := by
  refine lc_plain (fun x => some (f x)) xs hl hg (fun x hx acc ky kn hy _ => ?_) (by rw [List.filterMap_eq_map']; exact fin)
  have q := step x hx acc ky (hy _ rfl)
  unfold gq at q ⊢
  split at q
  · rename_i e
    exact q
  · exact q
def aP (b : Nat → Prop) (h h' : EH) : Prop := h.length ≤ h'.length ∧ ∀ r o, h[r]? = some o → ¬ b r → h'[r]? = some o
theorem aP.refl {b : Nat → Prop} {h : EH} : aP b h h := ⟨Nat.le_refl _, fun _ _ e _ => e⟩
theorem aP.trans {b : Nat → Prop} {h h' h2 : EH} (x : aP b h h') (y : aP b h' h2) : aP b h h2 := ⟨Nat.le_trans x.1 y.1, fun r o e n => y.2 r o (x.2 r o e n) n⟩
theorem aP.app {b : Nat → Prop} {h : EH} (g : EH) : aP b h (h ++ g) := ⟨by simp, fun r o e _ => by rw [List.getElem?_append_left (List.getElem?_eq_some_iff.mp e).1]; exact e⟩
theorem aP.set {b : Nat → Prop} {h : EH} {r : Nat} {o : EO} (hb : b r) : aP b h (h.set r o) := ⟨by simp, fun q u e n => by
  rw [List.getElem?_set_ne (fun z => n (by rw [← z]; exact hb))]; exact e⟩
theorem aP.fresh {b : Nat → Prop} {h h' : EH} {r : Nat} {o : EO} (x : aP b h h') (hr : h.length ≤ r) : aP b h (h'.set r o) := ⟨by simpa using x.1, fun q u e n => by
  have hq := (List.getElem?_eq_some_iff.mp e).1
  rw [List.getElem?_set_ne (by omega)]; exact x.2 q u e n⟩
theorem aP.weak {b c : Nat → Prop} {h h' : EH} (x : aP b h h') (w : ∀ r, b r → c r) : aP c h h' := ⟨x.1, fun r o e n => x.2 r o e fun z => n (w r z)⟩
def no1 : Nat → Prop := fun _ => False
theorem aP.all {c : Nat → Prop} {h h' : EH} (x : aP no1 h h') : aP c h h' := x.weak fun _ z => z.elim
theorem aP.at {h h' : EH} {r : Nat} {o : EO} (x : aP no1 h h') (e : h[r]? = some o) : h'[r]? = some o := x.2 r o e fun z => z
theorem jQ {h : EH} {r : Nat} {o : EO} (e : h[r]? = some o) : r < h.length := (List.getElem?_eq_some_iff.mp e).1
theorem dW {h : EH} {r : Nat} {o : EO} (e : h[r]? = some o) (g : EH) : (h ++ g)[r]? = some o := by rw [List.getElem?_append_left (jQ e)]; exact e
def DS (h : EH) (n k : Nat) (v : EV) (d : PyData) : Prop := Dat h n v d ∧ d.showable = true ∧ d.leavesShort 13 = true ∧ d.weight ≤ k
section
variable {h : EH} {n k j : Nat}
theorem log_le {a k : Nat} (h : a < 2 ^ k) (h0 : 0 < k) : a.log2 < k := by
  by_cases z : a = 0
  · subst z; simpa using h0
  · exact (Nat.log2_lt z).mpr h
theorem DS.int {i : Int} (hi : i.natAbs < 10 ^ 12) (hk : 41 ≤ k) : DS h n k (.int i) (.int i) := by
  have l : i.natAbs.log2 < 40 := log_le (Nat.lt_trans hi (by decide)) (by decide)
  refine ⟨.int i, ?_, ?_, ?_⟩
  · rw [PyData.showable.eq_4]
    exact decide_eq_true (by omega)
  · simp only [PyData.leavesShort]
    exact decide_eq_true (PyData.shown_int_le hi)
  · simp only [PyData.weight]
    split <;> omega
theorem DS.str {s : List Nat} (hs : ∀ c ∈ s, c < 16 ^ 8) (hk : s.length ≤ k) : DS h n k (.str s) (.str (S s)) := by
  refine ⟨.str s, by rw [PyData.showable.eq_3], ?_, ?_⟩
  · simp only [PyData.leavesShort, List.all_eq_true, decide_eq_true_eq]
    exact fun c hc => hs c (by simpa using hc)
  · simp only [PyData.weight]
    simpa using hk
end
mutual
def pd : EV → PyData
  | .int i => .int i
  | .bl b => .bool b
  | .str s => .str (S s)
  | .tup xs => .tuple (pds xs)
  | _ => .none
def pds : List EV → List PyData
  | [] => []
  | x :: xs => pd x :: pds xs
end
theorem eqE_same {h : EH} {v w : EV} {d : PyData} {P : EK} (a : Dat h 60 v d) (b : Dat h 60 w d) (p : P (.bl true) h) : eqE false v w h P := by
  have fin : ∃ d e, Dat h 60 v d ∧ Dat h 60 w e ∧ P (.bl (false ^^ PyData.eqv d e)) h := ⟨d, d, a, b, by
    rw [PySem.SeqAt.eqv_refl_plain d (Dat.dep d 60 v a).2]; exact p⟩
  cases a <;> cases b <;> first | exact fin | (unfold eqE; simpa using p)
theorem bu : sizeLine = 16777216 := by decide
theorem at0 {α : Type} {x : α} {xs : List α} : atI (x :: xs) 0 = some x := by
  have := L2.atI_nat (xs := x :: xs) (j := 0) (v := x) rfl
  simpa using this
theorem at1 {α : Type} {x y : α} {xs : List α} : atI (x :: y :: xs) 1 = some y := by
  have := L2.atI_nat (xs := x :: y :: xs) (j := 1) (v := y) rfl
  simpa using this
theorem at2 {α : Type} {x y z : α} {xs : List α} : atI (x :: y :: z :: xs) 2 = some z := by
  have := L2.atI_nat (xs := x :: y :: z :: xs) (j := 2) (v := z) rfl
  simpa using this
theorem at3 {α : Type} {x y z u : α} {xs : List α} : atI (x :: y :: z :: u :: xs) 3 = some u := by
  have := L2.atI_nat (xs := x :: y :: z :: u :: xs) (j := 3) (v := u) rfl
  simpa using this
theorem oG {h : EH} {b : Nat} {o u : EO} (e : h[b]? = some u) : (h.set b o)[b]? = some o := List.getElem?_set_self (jQ e)
theorem mZ {h : EH} {b c : Nat} {o u : EO} (e : h[c]? = some u) (n : c ≠ b) : (h.set b o)[c]? = some u := by rw [List.getElem?_set_ne (fun z => n z.symm)]; exact e
section
variable {h : EH} {P : EK} {r l b c : Nat} {xs ys : List EV} {i j : Int} {v w x : EV}
theorem ix_l (e : h[r]? = some (.lst xs)) (a : atI xs i = some x) (p : P x h) : ixE (.ref r) (.int i) h P := by
  unfold ixE; simp only [e, a]; exact p
theorem ix_t (a : atI xs i = some x) (p : P x h) : ixE (.tup xs) (.int i) h P := by
  unfold ixE; simp only [a]; exact p
theorem sl_l {lo hi : Option Int} (e : h[r]? = some (.lst xs)) (p : P (.ref h.length) (h ++ [.lst (cut xs lo hi)])) : slE (.ref r) lo hi h P := by
  unfold slE; simp only [e]; exact p
theorem add_l (e : h[l]? = some (.lst xs)) (e2 : h[r]? = some (.lst ys)) (hl : xs.length + ys.length ≤ sizeLine) (p : P (.ref h.length) (h ++ [.lst (xs ++ ys)])) : bU (.ref l) (.ref r) h P := by
  unfold bU; simp only [e, e2]; exact ⟨hl, p⟩
theorem set_l {k : Nat} {p : EH → Prop} (e : h[b]? = some (.lst xs)) (a : ixN xs.length i = some k) (q : p (h.set b (.lst (xs.set k v)))) : setE (.ref b) (.int i) v h p := by
  unfold setE; simp only [e, a]; exact q
theorem get_l {p : EV → Prop} (e : h[b]? = some (.lst xs)) (h0 : 0 ≤ i) (a : xs[i.toNat]? = some x) (q : p x) : getE (.ref b) (.int i) h p := by
  unfold getE; simp only [e, a]; exact ⟨h0, q⟩
theorem mul_i (c : IntMulOk i j) (p : P (.int (i * j)) h) : mulE (.int i) (.int j) h P := ⟨c, p⟩
theorem mod_i (c : 0 < j) (p : P (.int (i % j)) h) : modE (.int i) (.int j) h P := ⟨c, p⟩
theorem div_i (c : 0 < j) (c2 : j < 2 ^ 64) (p : P (.int (i / j)) h) : fdivE (.int i) (.int j) h P := ⟨⟨c, by
  have := log_le (a := j.natAbs) (k := 64) (by omega) (by decide)
  omega⟩, p⟩
theorem pow_i (c : CPow i j) (p : P (.int (i ^ j.toNat)) h) : powE (.int i) (.int j) h P := ⟨c, p⟩
theorem int_i (p : P (.int i) h) : intOf [.int i] h P := p
theorem int_b {q : Bool} (p : P (.int (if q then 1 else 0)) h) : intOf [.bl q] h P := p
theorem le_i (p : P (.bl (decide (i ≤ j))) h) : leE (.int i) (.int j) h P := p
theorem gt_i (p : P (.bl (decide (j < i))) h) : gtE (.int i) (.int j) h P := p
theorem ge_i (p : P (.bl (decide (j ≤ i))) h) : geE (.int i) (.int j) h P := p
theorem sub_i (p : P (.int (i - j)) h) : subE (.int i) (.int j) h P := p
theorem rJ (p : P (.int (i + j)) h) : bU (.int i) (.int j) h P := p
theorem rM {n : Bool} (p : P (.bl (n ^^ decide (i = j))) h) : eqE n (.int i) (.int j) h P := p
theorem eq_s {n : Bool} {s t : List Nat} (p : P (.bl (n ^^ decide (s = t))) h) : eqE n (.str s) (.str t) h P := p
theorem mulOk_r (hj : j.natAbs < 2 ^ 64) : IntMulOk i j := (show CMul i j from .inr (by omega)).ok
theorem mulOk_l (hi : i.natAbs < 2 ^ 64) : IntMulOk i j := (show CMul i j from .inl (by omega)).ok
theorem ins_e (e : h[r]? = some (.lst xs)) (hl : xs.length < sizeLine) (h0 : 0 ≤ i) (h1 : i < 2 ^ 63) (p : P .non (h.set r (.lst (xs.take i.toNat ++ [v] ++ xs.drop i.toNat)))) : insertE (.ref r) [.int i, v] h P := by
  unfold insertE jB; simp only [e]; exact ⟨hl, h0, h1, p⟩
theorem len_l (e : h[r]? = some (.lst xs)) (p : P (.int xs.length) h) : dM [.ref r] h P := by
  unfold dM; simp only [e]; exact p
end
theorem cut_to {α : Type} (xs : List α) (k : Nat) : cut xs none (some (k : Int)) = xs.take k := by
  unfold cut
  rw [HT.sIx_none, HT.sIx_nat]
  simp only [List.drop_zero, Nat.sub_zero]
  by_cases q : k ≤ xs.length
  · rw [Nat.min_eq_left q]
  · rw [Nat.min_eq_right (by omega), List.take_of_length_le (Nat.le_refl _), List.take_of_length_le (by omega)]
theorem qj {α : Type} (xs : List α) (k : Nat) : cut xs (some (k : Int)) none = xs.drop k := by
  unfold cut
  rw [HT.sIx_none, HT.sIx_nat]
  by_cases q : k ≤ xs.length
  · rw [Nat.min_eq_left q, List.take_of_length_le (by simp)]
  · rw [Nat.min_eq_right (by omega), List.take_of_length_le (by simp), List.drop_of_length_le (Nat.le_refl _), List.drop_of_length_le (by omega)]
theorem j5 {h : EH} {i : Nat} {v : EV} {env : En} {P : En → Prop} (p : P (env.set i (some v))) : gq h (.nm i) v env P := p
end Y
namespace Y
open PySem PySem.Spec PyProof.Rows L2
def kEq : EV → EV → Bool
  | .int i, .int j => decide (i = j)
  | .str a, .str b => decide (a = b)
  | _, _ => false
def isKey : EV → Prop
  | .int _ => True
  | .str _ => True
  | _ => False
def dGet (kvs : List (EV × EV)) (k : EV) : Option EV := match kvs with
  | [] => none
  | (a, x) :: r => if kEq a k = true then some x else dGet r k
def dHas (kvs : List (EV × EV)) (k : EV) : Bool := (dGet kvs k).isSome
def dRep (kvs : List (EV × EV)) (k v : EV) : List (EV × EV) := kvs.map fun p => if kEq p.1 k = true then (p.1, v) else p
def dPut (kvs : List (EV × EV)) (k v : EV) : List (EV × EV) := if dHas kvs k = true then dRep kvs k v else kvs ++ [(k, v)]
section
variable {K : PySem.W.Frag} {m : Nat → Addr} {n : Nat} {H : Hp}
theorem key_of {k : EV} {y : V} (hk : isKey k) (r : aC K m n H k y) : ∃ k' : L2.Key, y = kV k' := by
  cases k with
  | int i => rw [aC] at r; exact ⟨.inl i, r⟩
  | str s => rw [aC] at r; exact ⟨.inr (S s), r⟩
  | _ => exact hk.elim
theorem kEq_dec {a k : EV} {x y : L2.Key} (ra : aC K m n H a (kV x)) (rk : aC K m n H k (kV y)) (hk : isKey k) : kEq a k = decide (x = y) := by
  have no : ∀ {b : Bool} {z : L2.Key}, kV z ≠ V.bl b := fun {b z} => by cases z <;> simp [kV]
  cases k with
  | int j =>
    rw [aC] at rk
    cases y with
    | inl j' =>
      have : j' = j := by injection rk
      subst this
      cases a with
      | int i =>
        rw [aC] at ra
        cases x with
        | inl i' =>
          have : i' = i := by injection ra
          subst this
          simp [kEq]
        | inr s => cases ra
      | str s =>
        rw [aC] at ra
        cases x with
        | inl i' => cases ra
        | inr s' => simp [kEq]
      | non => rw [aC] at ra; cases x <;> cases ra
      | bl b => rw [aC] at ra; exact absurd ra no
      | tup xs => rw [aC] at ra; obtain ⟨_, _, e, _⟩ := ra; cases x <;> cases e
      | ktup xs => rw [aC] at ra; obtain ⟨_, _, e, _⟩ := ra; cases x <;> cases e
      | ref r => rw [aC] at ra; cases x <;> cases ra.2
      | adr r => rw [aC] at ra; cases x <;> cases ra
      | ty r => rw [aC] at ra; cases x <;> cases ra
    | inr s => cases rk
  | str t =>
    rw [aC] at rk
    cases y with
    | inl j' => cases rk
    | inr t' =>
      have : t' = S t := by injection rk
      subst this
      cases a with
      | int i =>
        rw [aC] at ra
        cases x with
        | inl i' => simp [kEq]
        | inr s => cases ra
      | str s =>
        rw [aC] at ra
        cases x with
        | inl i' => cases ra
        | inr s' =>
          have : s' = S s := by injection ra
          subst this
          simp only [kEq, Sum.inr.injEq, S_inj]
      | non => rw [aC] at ra; cases x <;> cases ra
      | bl b => rw [aC] at ra; exact absurd ra no
      | tup xs => rw [aC] at ra; obtain ⟨_, _, e, _⟩ := ra; cases x <;> cases e
      | ktup xs => rw [aC] at ra; obtain ⟨_, _, e, _⟩ := ra; cases x <;> cases e
      | ref r => rw [aC] at ra; cases x <;> cases ra.2
      | adr r => rw [aC] at ra; cases x <;> cases ra
      | ty r => rw [aC] at ra; cases x <;> cases ra
  | _ => exact hk.elim
theorem bH.get {k : EV} {y : L2.Key} (rk : aC K m n H k (kV y)) (hk : isKey k) : ∀ {es : List (EV × EV)} {l : List (L2.Key × V)}, bH K m n H es l →
    (∀ x, dGet es k = some x → ∃ v, valV l y = some v ∧ aC K m n H x v) ∧ (dGet es k = none → valV l y = none)
  | [], l, r => by
    rw [bH] at r
    subst r
    exact ⟨fun x e => by simp [dGet] at e, fun _ => rfl⟩
  | (a, x) :: es, l, r => by
    rw [bH] at r
    obtain ⟨a', v, l', rfl, ra, rx, r⟩ := r
    have e := kEq_dec ra rk hk
    have ih := bH.get rk hk r
    unfold dGet
    rw [e]
    by_cases q : a' = y
    · rw [decide_eq_true q, if_pos rfl, valV_pos (p := (a', v)) q]
      exact ⟨fun z ez => by cases ez; exact ⟨v, rfl, rx⟩, fun ez => by cases ez⟩
    · rw [decide_eq_false q, if_neg Bool.false_ne_true, valV_neg (p := (a', v)) q]
      exact ih
theorem bH.has {k : EV} {y : L2.Key} {es : List (EV × EV)} {l : List (L2.Key × V)} (rk : aC K m n H k (kV y)) (hk : isKey k) (r : bH K m n H es l) : (valV l y).isSome = dHas es k := by
  obtain ⟨h1, h2⟩ := bH.get rk hk r
  unfold dHas
  cases e : dGet es k with
  | none => rw [h2 e]; rfl
  | some x => obtain ⟨v, ev, _⟩ := h1 x e; rw [ev]; rfl
theorem bH.app {es fs : List (EV × EV)} {l l' : List (L2.Key × V)} (h : bH K m n H es l) (g : bH K m n H fs l') : bH K m n H (es ++ fs) (l ++ l') := by
  induction es generalizing l with
  | nil => rw [bH] at h; subst h; exact g
  | cons p es ih =>
    obtain ⟨a, x⟩ := p
    rw [bH] at h
    obtain ⟨a', v, l2, rfl, ra, rx, r⟩ := h
    rw [List.cons_append, List.cons_append, bH]
    exact ⟨a', v, _, rfl, ra, rx, ih r⟩
theorem bH.rep {k w : EV} {y : L2.Key} {z : V} (rk : aC K m n H k (kV y)) (hk : isKey k) (rw' : aC K m n H w z) : ∀ {es : List (EV × EV)} {l : List (L2.Key × V)}, bH K m n H es l →
    bH K m n H (dRep es k w) (l.map fun kv => if kv.1 = y then (kv.1, z) else kv)
  | [], l, r => by rw [bH] at r; subst r; exact rfl
  | (a, x) :: es, l, r => by
    rw [bH] at r
    obtain ⟨a', v, l', rfl, ra, rx, r⟩ := r
    have e := kEq_dec ra rk hk
    have ih := bH.rep rk hk rw' r
    unfold dRep at ih ⊢
    rw [List.map_cons, List.map_cons]
    simp only [e]
    by_cases q : a' = y
    · rw [decide_eq_true q, if_pos rfl, if_pos q, bH]
      exact ⟨a', z, _, rfl, ra, rw', ih⟩
    · rw [decide_eq_false q, if_neg Bool.false_ne_true, if_neg q, bH]
      exact ⟨a', v, _, rfl, ra, rx, ih⟩
theorem bH.put {k w : EV} {y : L2.Key} {z : V} {es : List (EV × EV)} {l : List (L2.Key × V)} (rk : aC K m n H k (kV y)) (hk : isKey k) (rw' : aC K m n H w z) (r : bH K m n H es l) : bH K m n H (dPut es k w) (putK l y z) := by
  unfold dPut putK
  rw [valV_any, bH.has rk hk r]
  split
  · exact bH.rep rk hk rw' r
  · exact r.app (by rw [bH]; exact ⟨y, z, [], rfl, rk, rw', rfl⟩)
end
def isKeyT (v : EV) : Prop := (keyL v).isSome = true
def dGetT (kvs : List (EV × EV)) (k : EV) : Option EV := match kvs with
  | [] => none
  | (a, x) :: r => if keyL a = keyL k then some x else dGetT r k
def dHasT (kvs : List (EV × EV)) (k : EV) : Bool := (dGetT kvs k).isSome
def dRepT (kvs : List (EV × EV)) (k v : EV) : List (EV × EV) := kvs.map fun p => if keyL p.1 = keyL k then (p.1, v) else p
def dPutT (kvs : List (EV × EV)) (k v : EV) : List (EV × EV) := if dHasT kvs k = true then dRepT kvs k v else kvs ++ [(k, v)]
section
variable {K : PySem.W.Frag} {m : Nat → Addr} {n : Nat} {H : Hp}
theorem keysL_rel : ∀ {ks : List EV} {k' : List L2.Key} {vs : List V}, keysL ks = some k' → aO K m n H ks vs → vs = k'.map kV
  | [], k', vs, e, r => by
    rw [keysL] at e; cases e
    rw [aO] at r; exact r
  | x :: ks, k', vs, e, r => by
    rw [aO] at r
    obtain ⟨v, l, rfl, a, b⟩ := r
    cases x with
    | int i =>
      rw [keysL] at e
      obtain ⟨q, hq, rfl⟩ := Option.map_eq_some_iff.mp e
      rw [aC] at a
      rw [a, keysL_rel hq b]; rfl
    | str s =>
      rw [keysL] at e
      obtain ⟨q, hq, rfl⟩ := Option.map_eq_some_iff.mp e
      rw [aC] at a
      rw [a, keysL_rel hq b]; rfl
    | _ => simp [keysL] at e
theorem keyT_of {k : EV} {y : V} (hk : isKeyT k) (r : aC K m n H k y) : ∃ k' b, keyL k = some k' ∧ y = .ref b ∧ H b = some (.tup (k'.map kV)) := by
  obtain ⟨k', e⟩ := Option.isSome_iff_exists.mp hk
  cases k with
  | tup ks =>
    rw [aC] at r
    obtain ⟨a, vs, rfl, h, r⟩ := r
    exact ⟨k', a, e, rfl, by rw [← keysL_rel e r]; exact h⟩
  | _ => simp [keyL] at e
theorem cW.get {k : EV} {y : List L2.Key} (hk : keyL k = some y) : ∀ {es : List (EV × EV)} {l : List (List L2.Key × V)}, cW K m n H es l →
    (∀ x, dGetT es k = some x → ∃ v, valV l y = some v ∧ aC K m n H x v) ∧ (dGetT es k = none → valV l y = none)
  | [], l, r => by
    rw [cW] at r
    subst r
    exact ⟨fun x e => by simp [dGetT] at e, fun _ => rfl⟩
  | (a, x) :: es, l, r => by
    rw [cW] at r
    obtain ⟨a', v, l', rfl, ra, rx, r⟩ := r
    have ih := cW.get hk r
    unfold dGetT
    rw [ra, hk]
    by_cases q : a' = y
    · rw [if_pos (by rw [q]), valV_pos (p := (a', v)) q]
      exact ⟨fun z ez => by cases ez; exact ⟨v, rfl, rx⟩, fun ez => by cases ez⟩
    · rw [if_neg (fun z => q (Option.some.inj z)), valV_neg (p := (a', v)) q]
      exact ih
theorem cW.has {k : EV} {y : List L2.Key} {es : List (EV × EV)} {l : List (List L2.Key × V)} (hk : keyL k = some y) (r : cW K m n H es l) : (valV l y).isSome = dHasT es k := by
  obtain ⟨h1, h2⟩ := cW.get hk r
  unfold dHasT
  cases e : dGetT es k with
  | none => rw [h2 e]; rfl
  | some x => obtain ⟨v, ev, _⟩ := h1 x e; rw [ev]; rfl
theorem cW.app {es fs : List (EV × EV)} {l l' : List (List L2.Key × V)} (h : cW K m n H es l) (g : cW K m n H fs l') : cW K m n H (es ++ fs) (l ++ l') := by
  induction es generalizing l with
  | nil => rw [cW] at h; subst h; exact g
  | cons p es ih =>
    obtain ⟨a, x⟩ := p
    rw [cW] at h
    obtain ⟨a', v, l2, rfl, ra, rx, r⟩ := h
    rw [List.cons_append, List.cons_append, cW]
    exact ⟨a', v, _, rfl, ra, rx, ih r⟩
theorem cW.rep {k w : EV} {y : List L2.Key} {z : V} (hk : keyL k = some y) (rw' : aC K m n H w z) : ∀ {es : List (EV × EV)} {l : List (List L2.Key × V)}, cW K m n H es l →
    cW K m n H (dRepT es k w) (l.map fun kv => if kv.1 = y then (kv.1, z) else kv)
  | [], l, r => by rw [cW] at r; subst r; exact rfl
  | (a, x) :: es, l, r => by
    rw [cW] at r
    obtain ⟨a', v, l', rfl, ra, rx, r⟩ := r
    have ih := cW.rep hk rw' r
    unfold dRepT at ih ⊢
    rw [List.map_cons, List.map_cons]
    simp only [ra, hk]
    by_cases q : a' = y
    · rw [if_pos (by rw [q]), if_pos q, cW]
      exact ⟨a', z, _, rfl, ra, rw', by simpa only [hk] using ih⟩
    · rw [if_neg (fun z => q (Option.some.inj z)), if_neg q, cW]
      exact ⟨a', v, _, rfl, ra, rx, by simpa only [hk] using ih⟩
theorem cW.put {k w : EV} {y : List L2.Key} {z : V} {es : List (EV × EV)} {l : List (List L2.Key × V)} (hk : keyL k = some y) (rw' : aC K m n H w z) (r : cW K m n H es l) : cW K m n H (dPutT es k w) (putK l y z) := by
  unfold dPutT putK
  rw [valV_any, cW.has hk r]
  split
  · exact cW.rep hk rw' r
  · exact r.app (by rw [cW]; exact ⟨y, z, [], rfl, hk, rw', rfl⟩)
theorem cW.length : ∀ {es : List (EV × EV)} {vs : List (List L2.Key × V)}, cW K m n H es vs → es.length = vs.length
  | [], _, r => by rw [cW] at r; subst r; rfl
  | _ :: _, _, r => by
    rw [cW] at r
    obtain ⟨k, v, l, rfl, _, _, r⟩ := r
    simp [cW.length r]
end
def dgE : LO := fun v w h P => match v with
  | .ref r => match h[r]? with
    | some (.dic kvs) => isKey w ∧ match dGet kvs w with
      | some x => P x h
      | none => False
    | some (.dct kvs) => isKeyT w ∧ match dGetT kvs w with
      | some x => P x h
      | none => False
    | _ => False
  | _ => False
def rDg : R2 := fun x y H Q => ∃ a v, x = .ref a ∧ DGet H a y (some v) ∧ Q v H
section
variable {X : Cx}
theorem ix_dg (hu : X.A.units + 1 < cLine) : IxR X rDg := by
  intro value slice pins s σ H x y v u Q I rx ry h hs
  obtain ⟨a, r, rfl, g, q⟩ := h
  obtain rfl : v = Value.ref a := rx
  exact tail_any (dict_typeIs I g) slot_dict_getitem.lookup (d_getItem hu I g ry fun w' s3 I3 rw' => ⟨r, H, I3, rw', q⟩) hs
theorem lop_dg : LOp X.K rDg dgE := by
  intro m h H v w x y P Q R rx ry q k
  unfold dgE at q
  split at q
  · rw [aC] at rx
    obtain ⟨_, rfl⟩ := rx
    split at q
    · rename_i e
      obtain ⟨l, a, r⟩ := R.obj _ _ e
      obtain ⟨hk, q⟩ := q
      obtain ⟨k', rfl⟩ := key_of hk ry
      split at q
      · rename_i e2
        obtain ⟨z, ez, rz⟩ := (bH.get ry hk r).1 _ e2
        refine ⟨_, z, rfl, ?_, k.same R q rz⟩
        rw [← ez]
        exact DGet.k a
      · exact q.elim
    · rename_i e
      obtain ⟨l, a, r⟩ := R.obj _ _ e
      obtain ⟨hk, q⟩ := q
      obtain ⟨k', b, ek, rfl, hb⟩ := keyT_of hk ry
      split at q
      · rename_i e2
        obtain ⟨z, ez, rz⟩ := (cW.get ek r).1 _ e2
        refine ⟨_, z, rfl, ?_, k.same R q rz⟩
        rw [← ez]
        exact DGet.t a hb
      · exact q.elim
    · exact q.elim
  · exact q.elim
end
def ixA : LO := fun v w h P => match v with
  | .ref r => match h[r]? with
    | some (.dic _) => dgE v w h P
    | some (.dct _) => dgE v w h P
    | _ => ixE v w h P
  | _ => ixE v w h P
theorem ixA_or {v w : EV} {h : EH} {P : EK} (q : ixA v w h P) : dgE v w h P ∨ ixE v w h P := by
  unfold ixA at q
  split at q
  · split at q
    · exact .inl q
    · exact .inl q
    · exact .inr q
  · exact .inr q
theorem fH {X : Cx} (hu : X.A.units + 1 < cLine) : LIxR X ixA := by
  obtain ⟨r, h, s⟩ := lix (X := X)
  refine ⟨_, IxR.or (ix_dg hu) h, fun m h H v w x y P Q R rx ry q k => ?_⟩
  rcases ixA_or q with q | q
  · exact .inl (lop_dg m h H v w x y P Q R rx ry q k)
  · exact .inr (s m h H v w x y P Q R rx ry q k)
section
variable {h : EH} {P : EK} {r l b c : Nat} {xs ys : List EV} {i j : Int} {v w x : EV} {kvs : List (EV × EV)}
theorem ia_l (e : h[r]? = some (.lst xs)) (a : atI xs i = some x) (p : P x h) : ixA (.ref r) (.int i) h P := by
  unfold ixA; simp only [e]; exact ix_l e a p
theorem jE (a : atI xs i = some x) (p : P x h) : ixA (.tup xs) (.int i) h P := ix_t a p
theorem ia_d (e : h[r]? = some (.dic kvs)) (hk : isKey w) (a : dGet kvs w = some x) (p : P x h) : ixA (.ref r) w h P := by
  unfold ixA dgE; simp only [e, a]; exact ⟨hk, p⟩
end
def oM : EV → Bool
  | .non => true
  | .bl _ => true
  | .int _ => true
  | .str _ => true
  | _ => false
def eqF : EV → EV → Bool
  | .non, .non => true
  | .bl a, .bl b => decide (a = b)
  | .int i, .int j => decide (i = j)
  | .str a, .str b => decide (a = b)
  | .bl b, .int i => decide (i = if b then 1 else 0)
  | .int i, .bl b => decide (i = if b then 1 else 0)
  | _, _ => false
def inF (v : EV) (xs : List EV) : Bool := xs.any fun y => eqF y v
def toV : EV → V
  | .bl b => .bl b
  | .int i => .int i
  | .str s => .str (S s)
  | _ => .non
theorem flat_rel {K : PySem.W.Frag} {m : Nat → Addr} {n : Nat} {H : Hp} {v : EV} {x : V} (f : oM v = true) (r : aC K m n H v x) : x = toV v := by
  cases v <;> first | (simp [oM] at f; done) | (rw [aC] at r; exact r)
theorem toV_flat {v : EV} (f : oM v = true) : flatV (toV v) = true := by
  cases v <;> first | (simp [oM] at f; done) | rfl
theorem eqF_V {a b : EV} (fa : oM a = true) (fb : oM b = true) : eqV (toV a) (toV b) = eqF a b := by
  cases a <;> cases b <;> first
    | (simp [oM] at fa; done)
    | (simp [oM] at fb; done)
    | rfl
    | (simp only [toV, eqV, eqF]; exact beqD _ _)
    | (simp only [toV, eqV, eqF]; rw [beqD]; exact decide_eq_decide.mpr S_inj)
    | (simp only [toV, eqV, eqF]; rw [beqD]; exact decide_eq_decide.mpr eq_comm)
theorem flats_rel {K : PySem.W.Frag} {m : Nat → Addr} {n : Nat} {H : Hp} : ∀ {es : List EV} {vs : List V}, es.all oM = true → aO K m n H es vs → vs = es.map toV
  | [], vs, _, r => by rw [aO] at r; exact r
  | e :: es, vs, f, r => by
    rw [aO] at r
    obtain ⟨v, l, rfl, a, b⟩ := r
    simp only [List.all_cons, Bool.and_eq_true] at f
    rw [flat_rel f.1 a, flats_rel f.2 b]; rfl
theorem inF_V {v : EV} {xs : List EV} (fv : oM v = true) (fs : xs.all oM = true) : inV (toV v) (xs.map toV) = inF v xs := by
  unfold inV inF
  induction xs with
  | nil => rfl
  | cons x xs ih =>
    simp only [List.all_cons, Bool.and_eq_true] at fs
    rw [List.map_cons, List.any_cons, List.any_cons, ih fs.2, eqF_V fs.1 fv]
def inSq (neg : Bool) (v : EV) (xs : List EV) (P : EV → Prop) : Prop := oM v = true ∧ xs.all oM = true ∧ P (.bl (neg ^^ inF v xs))
def inA (neg : Bool) : LO := fun v w h P => match w with
  | .tup xs => inSq neg v xs fun b => P b h
  | .ktup xs => inSq neg v xs fun b => P b h
  | .str z => match v with
    | .str [c] => P (.bl (neg ^^ decide (c ∈ z))) h
    | _ => False
  | .ref r => match h[r]? with
    | some (.dic kvs) => isKey v ∧ P (.bl (neg ^^ dHas kvs v)) h
    | some (.dct kvs) => isKeyT v ∧ P (.bl (neg ^^ dHasT kvs v)) h
    | some (.lst xs) => (inSq neg v xs fun b => P b h) ∨ ∃ d ds, Dat h 60 v d ∧ qI h 59 xs ds ∧ PySem.SeqAt.shaped d = true ∧ PySem.SeqAt.shaped (.list ds) = true ∧ P (.bl (neg ^^ ds.any fun z => PyData.eqv z d)) h
    | some (.frz xs) => inSq neg v xs fun b => P b h
    | _ => False
  | _ => False
def rInDic (neg : Bool) : R2 := fun y x H Q => ∃ a o, x = .ref a ∧ DGet H a y o ∧ Q (.bl (neg ^^ o.isSome)) H
section
variable {X : Cx}
theorem inA_sim {neg : Bool} {m : Nat → Addr} {h : EH} {H : Hp} {v w : EV} {x y : V} {P : EK} {Q : VK} (R : cC X.K m h H) (rx : aC X.K m h.length H v x) (ry : aC X.K m h.length H w y) (q : inA neg v w h P) (k : Kon X.K m h.length H P Q) :
    rInDic neg x y H Q ∨ (∃ p xs, y = .ref p ∧ (SqL X.K H p xs ∨ SqT X.K H p xs) ∧ flatV x = true ∧ xs.all flatV = true ∧ Q (.bl (neg ^^ inV x xs)) H) ∨
      (∃ d ds, Dp X.K H x d ∧ Dp X.K H y (.list ds) ∧ PySem.SeqAt.shaped d = true ∧ PySem.SeqAt.shaped (.list ds) = true ∧ Q (.bl (neg ^^ ds.any fun z => PyData.eqv z d)) H) ∨
      ∃ (c : Nat) (z : Str), x = .str ⟨#[c]⟩ ∧ y = .str z ∧ Q (.bl (neg ^^ decide (c ∈ z.cps.toList))) H := by
  have seq : ∀ {p : Addr} {xs : List EV} {vs : List V}, y = .ref p → (SqL X.K H p vs ∨ SqT X.K H p vs) → aO X.K m h.length H xs vs → (inSq neg v xs fun b => P b h) →
      ∃ p xs, y = .ref p ∧ (SqL X.K H p xs ∨ SqT X.K H p xs) ∧ flatV x = true ∧ xs.all flatV = true ∧ Q (.bl (neg ^^ inV x xs)) H := by
    intro p xs vs ey hs r ⟨f1, f2, q⟩
    have e1 := flat_rel f1 rx
    have e2 := flats_rel f2 r
    subst e1 e2
    refine ⟨p, _, ey, hs, toV_flat f1, ?_, by rw [inF_V f1 f2]; exact k.same R q (by rw [aC])⟩
    rw [List.all_map]
    rw [List.all_eq_true] at f2 ⊢
    exact fun z hz => toV_flat (f2 z hz)
  unfold inA at q
  split at q
  · rw [aC] at ry
    obtain ⟨a, vs, rfl, hs, r⟩ := ry
    exact .inr (.inl (seq rfl (.inr (SqT.of hs)) r q))
  · rw [aC] at ry
    obtain ⟨a, vs, rfl, hs, r⟩ := ry
    exact .inr (.inl (seq rfl (.inr hs) r q))
  · split at q
    · rw [aC] at rx ry
      refine .inr (.inr (.inr ⟨_, _, rx, ry, ?_⟩))
      have := k.same R q (by rw [aC])
      simpa using this
    · exact q.elim
  · have ry0 := ry
    rw [aC] at ry
    obtain ⟨_, rfl⟩ := ry
    split at q
    · rename_i e
      obtain ⟨l, a, r⟩ := R.obj _ _ e
      obtain ⟨hk, q⟩ := q
      obtain ⟨k', rfl⟩ := key_of hk rx
      refine .inl ⟨_, _, rfl, DGet.k a, ?_⟩
      rw [bH.has rx hk r]
      exact k.same R q (by rw [aC])
    · rename_i e
      obtain ⟨l, a, r⟩ := R.obj _ _ e
      obtain ⟨hk, q⟩ := q
      obtain ⟨k', b, ek, rfl, hb⟩ := keyT_of hk rx
      refine .inl ⟨_, _, rfl, DGet.t a hb, ?_⟩
      rw [cW.has ek r]
      exact k.same R q (by rw [aC])
    · rename_i e
      obtain ⟨vs, a, r⟩ := R.obj _ _ e
      rcases q with q | ⟨d, ds, d1, d2, s1, s2, q⟩
      · exact .inr (.inl (seq rfl (.inl (SqL.of a)) r q))
      · exact .inr (.inr (.inl ⟨d, ds, Dat.dp R _ _ _ _ d1 rx, Dat.dp R (.list ds) 60 _ _ (.lst e d2) ry0, s1, s2, k.same R q (by rw [aC])⟩))
    · rename_i e
      obtain ⟨vs, a, r⟩ := R.obj _ _ e
      exact .inr (.inl (seq rfl (.inl a.sql) r q))
    · exact q.elim
  · exact q.elim
theorem lo_in (hu : X.A.units + 65 < cLine) : oA X (compareOp .In) (inA false) := by
  have od : OpR X (compareOp .In) (rInDic false) := by
    intro pins s σ H x y v u Q I rx ry ⟨a, o, ey, g, q⟩
    subst ey
    obtain rfl : u = Value.ref a := ry
    exact d_in (by omega) I g rx fun s3 I3 => ⟨.bl o.isSome, H, I3, rfl, by simpa using q⟩
  refine ⟨_, OpR.or od (OpR.or op_in_seq (OpR.or (op_inD hu) op_in_sign)), fun m h H v w x y P Q R rx ry q k => ?_⟩
  rcases inA_sim R rx ry q k with q | ⟨p, xs, e, a, b, c, q⟩ | ⟨d, ds, a, b, c, e, q⟩ | ⟨c, z, e1, e2, q⟩
  · exact .inl q
  · exact .inr (.inl ⟨p, xs, e, a, b, c, by simpa using q⟩)
  · exact .inr (.inr (.inl ⟨d, ds, a, b, c, e, by simpa using q⟩))
  · exact .inr (.inr (.inr ⟨c, z, e1, e2, by simpa using q⟩))
theorem lo_nin (hu : X.A.units + 65 < cLine) : oA X (compareOp .NotIn) (inA true) := by
  have od : OpR X (compareOp .NotIn) (rInDic true) := by
    intro pins s σ H x y v u Q I rx ry ⟨a, o, ey, g, q⟩
    subst ey
    obtain rfl : u = Value.ref a := ry
    exact d_notIn (by omega) I g rx fun s3 I3 => ⟨.bl (!o.isSome), H, I3, rfl, by simpa using q⟩
  refine ⟨_, OpR.or od (OpR.or op_notIn_seq (OpR.or (op_notInD hu) op_notIn_sign)), fun m h H v w x y P Q R rx ry q k => ?_⟩
  rcases inA_sim R rx ry q k with q | ⟨p, xs, e, a, b, c, q⟩ | ⟨d, ds, a, b, c, e, q⟩ | ⟨c, z, e1, e2, q⟩
  · exact .inl q
  · exact .inr (.inl ⟨p, xs, e, a, b, c, by simpa using q⟩)
  · exact .inr (.inr (.inl ⟨d, ds, a, b, c, e, by simpa using q⟩))
  · exact .inr (.inr (.inr ⟨c, z, e1, e2, by simpa using q⟩))
end
def lDnew : LT := fun _ h P => P (.ref h.length) (h ++ [.dic []])
def setA (o i v : EV) (h : EH) (P : EH → Prop) : Prop := match o with
  | .ref r => match h[r]? with
    | some (.dic kvs) => isKey i ∧ kvs.length < sizeLine ∧ P (h.set r (.dic (dPut kvs i v)))
    | some (.dct kvs) => isKeyT i ∧ kvs.length < sizeLine ∧ P (h.set r (.dct (dPutT kvs i v)))
    | _ => setE o i v h P
  | _ => setE o i v h P
def rSetA : TSet := fun x y z H Q => rSetL x y z H Q ∨ ∃ a H4, x = .ref a ∧ DPut H a y z H4 ∧ Q H4
section
variable {X : Cx} {pos : Pos}
theorem le_dnew : LE X (.Dict [] [] pos) lDnew := by
  refine ⟨PE.imp pe_dnewK fun σ H Q ⟨m, env, h, P, at_, t1, k⟩ p hp => ?_⟩
  have E : Ex X.K m h.length H (oU m h.length p) (h ++ [EO.dic []]).length (upd H p (.dK [])) := Ex.new hp
  have R : cC X.K (oU m h.length p) (h ++ [EO.dic []]) (upd H p (.dK [])) := at_.hp.new hp ⟨[], upd_same, rfl⟩
  exact k _ _ t1 _ _ _ E R (by rw [aC]; exact ⟨by simp, by rw [jx]⟩)
theorem set_any (hu : X.A.units + 1 < cLine) : PSet X rSetA := by
  intro pins s σ H o i v ov iv u Q I ro ri rv h
  rcases h with h | ⟨a, H4, rfl, g, q⟩
  · exact set_list pins s σ H o i v ov iv u Q I ro ri rv h
  · obtain rfl : ov = Value.ref a := ro
    exact d_setItem hu I g ri rv fun s4 I4 => ⟨H4, I4, q⟩
theorem setA_sim {K : PySem.W.Frag} {m : Nat → Addr} {h : EH} {H : Hp} {o i v : EV} {x y z : V} {P : EH → Prop} {Q : Hp → Prop} (R : cC K m h H) (rx : aC K m h.length H o x) (ry : aC K m h.length H i y) (rz : aC K m h.length H v z) (q : setA o i v h P)
    (k : ∀ h', P h' → ∀ H', Ex K m h.length H m h'.length H' → cC K m h' H' → Q H') : rSetA x y z H Q := by
  unfold setA at q
  split at q
  · split at q
    · rename_i kvs e
      rw [aC] at rx
      obtain ⟨_, rfl⟩ := rx
      obtain ⟨hk, hl, q⟩ := q
      obtain ⟨l, a, r⟩ := R.obj _ _ e
      obtain ⟨k', rfl⟩ := key_of hk ry
      have ll := bH.length r
      refine .inr ⟨_, _, rfl, DPut.k a (by omega), ?_⟩
      have E := Ex.write (o := .dK (putK l k' z)) (e' := EO.dic (dPut kvs i v)) R e
      exact k _ q _ E (R.write e ⟨_, upd_same, bH.put (aC.ex E _ _ ry) hk (aC.ex E _ _ rz) (r.ex E)⟩)
    · rename_i kvs e
      rw [aC] at rx
      obtain ⟨_, rfl⟩ := rx
      obtain ⟨hk, hl, q⟩ := q
      obtain ⟨l, a, r⟩ := R.obj _ _ e
      obtain ⟨k', b, ek, rfl, hb⟩ := keyT_of hk ry
      have ll := cW.length r
      refine .inr ⟨_, _, rfl, DPut.t a hb (by omega), ?_⟩
      have E := Ex.write (o := .dT (putK l k' z)) (e' := EO.dct (dPutT kvs i v)) R e
      exact k _ q _ E (R.write e ⟨_, upd_same, cW.put ek (aC.ex E _ _ rz) (r.ex E)⟩)
    · exact .inl (set_sim R rx ry rz q k)
  · exact .inl (set_sim R rx ry rz q k)
def cQ (to ti te : LT) : LS := fun D env h => te env h fun v h1 => to env h1 fun o h2 => ti env h2 fun i h3 => setA o i v h3 fun h4 => D.nx env h4
theorem ls_setA {o i e : Expr} {to ti te : LT} {tpos : Pos} (hu : X.A.units + 1 < cLine) (he : LE X e te) (ho : LE X o to) (hi : LE X i ti) (ha : ∀ v, assign (.Subscript o i tpos) X.env v = (do
      let ov ← holding [v] (eval o X.env)
      let iv ← holding [v, ov] (eval i X.env)
      standAt tpos
      holding [v, ov, iv] (setItem ov iv v)
      release [v, ov, iv] []) := by intro _; rfl) (hs : swapsWithSole [.Subscript o i tpos] e pos.line X.env = pure false := by rfl) (hw : swappedStores [.Subscript o i tpos] e X.env = pure none := by rfl)
    (h1 : (assignEach [.Subscript o i tpos] X.env).map (·.2) = [assign (.Subscript o i tpos) X.env] := by rfl) : LSt X (.Assign [.Subscript o i tpos] e pos) (cQ to ti te) :=
  ⟨PS.imp (ps_asg he.pe (pg_sub ho.pe hi.pe (set_any hu) ha) hs hw h1) fun D σ H ⟨m, env, h, P, at_, t1, k⟩ => ⟨m, env, h, _, at_, t1, fun v h1 p1 m1 H1 x E1 R1 r1 =>
    ⟨m1, env, h1, _, at_.ex E1 R1, p1, fun o h2 p2 m2 H2 y E2 R2 r2 => ⟨m2, env, h2, _, (at_.ex E1 R1).ex E2 R2, p2, fun i h3 p3 m3 H3 z E3 R3 r3 =>
      setA_sim R3 (aC.ex E3 _ _ r2) r3 (aC.ex (E2.trans E3) _ _ r1) p3 fun h4 p4 H4 E4 R4 => k.nx _ _ p4 m3 H4 σ (((E1.trans E2).trans E3).trans E4) ((((at_.ex E1 R1).ex E2 R2).ex E3 R3).ex E4 R4)⟩⟩⟩⟩
theorem aO.bools {K : PySem.W.Frag} {m : Nat → Addr} {n : Nat} {H : Hp} : ∀ {ns : List Bool} {vs : List V}, aO K m n H (ns.map EV.bl) vs → vs = ns.map V.bl
  | [], _, r => by rw [List.map_nil, aO] at r; exact r
  | i :: l, _, r => by
    rw [List.map_cons, aO] at r
    obtain ⟨v, t, rfl, a, b⟩ := r
    rw [aC] at a
    rw [a, aO.bools b]; rfl
def quE (f : List Bool → Bool) : LC := fun vs h P => match vs with
  | [.ref r] => match h[r]? with
    | some (.lst xs) => ∃ bs : List Bool, xs = bs.map EV.bl ∧ P (.bl (f bs)) h
    | _ => False
  | _ => False
abbrev allE : LC := quE fun bs => bs.all id
theorem lc_all (hc : X.calm = true) : nH X (.builtin "all") allE := by
  refine ⟨_, cr_all hc, fun m h H vs xs P Q R r0 q k => ?_⟩
  unfold allE quE at q
  split at q
  · obtain ⟨v, rfl, r⟩ := r0.one_inv
    rw [aC] at r
    obtain ⟨_, rfl⟩ := r
    split at q
    · rename_i e
      obtain ⟨us, a, r⟩ := R.obj _ _ e
      obtain ⟨ns, rfl, q⟩ := q
      have := r.bools
      subst this
      exact ⟨_, ns, rfl, SqL.of a, k.same R q (by rw [aC])⟩
    · exact q.elim
  · exact q.elim
end
section
variable {X : Cx} {pos : Pos}
theorem up_lc (own : List (Str × Nat)) {ti : LI} {p : Pat} {tt : LTt} {te : LT} (hp : ∀ i ∈ Pat.slots p, i ∈ own.map (·.2)) (σ : L2.St) (H : Hp) (Q : VK) (q : up X.K (lLc ti p tt te (own.map (·.2))) σ H Q) :
    tLc (upI X.K ti) (gP X.K p) (upT X.K tt) (up X.K te) (own.map (·.2)) σ H Q := by
  obtain ⟨m, env, h, P, at_, t1, k⟩ := q
  refine ⟨m, env, h, _, at_, t1, fun g xs h1 p1 m1 H1 J E1 R1 sim D hD => ?_⟩
  have E2 : Ex X.K m1 h1.length H1 (oU m1 h1.length D) (h1 ++ [EO.lst []]).length (upd H1 D (.lst [])) := Ex.new hD
  have R2 : cC X.K (oU m1 h1.length D) (h1 ++ [EO.lst []]) (upd H1 D (.lst [])) := R1.new hD ⟨[], upd_same, .nil⟩
  refine ⟨fun i c H' => c = xs.length - i ∧ i ≤ xs.length ∧ ∃ m2 h2, Ex X.K m1 h1.length H1 m2 h2.length H' ∧ cC X.K m2 h2 H' ∧ m2 h1.length = D ∧ h1.length < h2.length ∧ lcE g p tt te h1.length (cA env (own.map (·.2))) P (xs.drop i) h2,
    ⟨xs.length, by simp, Nat.zero_le _, _, _, E2, R2, jx, by simp, by simpa using p1⟩, ?_⟩
  rintro i c H' ⟨rfl, hi, m2, h2, E3, R3, eD, lD, q⟩
  by_cases hlt : i < xs.length
  · have ed : xs.drop i = xs[i] :: xs.drop (i + 1) := List.drop_eq_getElem_cons hlt
    rw [ed, lcE] at q
    obtain ⟨qg, q⟩ := q
    obtain ⟨s1, s2⟩ := sim i h2 m2 H' E3 R3 qg
    obtain ⟨go, yl⟩ := s1 xs[i] (List.getElem?_eq_getElem hlt)
    refine .inr ⟨go, fun H4 => ∃ m4 h4, Ex X.K m1 h1.length H1 m4 h4.length H4 ∧ cC X.K m4 h4 H4 ∧ m4 h1.length = D ∧ h1.length < h4.length ∧ lcE g p tt te h1.length (cA env (own.map (·.2))) P (xs.drop (i + 1)) h4,
      fun H4 q4 => ⟨xs.length - (i + 1), by omega, rfl, hlt, q4⟩, fun v H4 y => ?_⟩
    obtain ⟨E4, R4, r4⟩ := yl v H4 y
    have E14 := (E1.trans E3).trans E4
    obtain ⟨env5, σ5, q5, f, N5, keep, len⟩ := bind_sim R4 ((at_.nm.ex E14).wipe (own.map (·.2))) r4 q
    refine f _ ⟨wipe_back (ss := Pat.slots p) keep hp (by rw [len, wipe_length]), m2, env5, h2, _, ⟨R4, N5⟩, q5, fun b h6 p6 m6 H6 E6 R6 => ?_⟩
    have E16 := (E3.trans E4).trans E6
    have lt2 := E6.le
    have eD6 : m6 h1.length = D := (E6.eq _ lD).trans eD
    cases b with
    | false =>
      dsimp only
      rw [if_neg Bool.false_ne_true] at p6 ⊢
      exact ⟨m6, h6, E16, R6, eD6, by omega, p6⟩
    | true =>
      dsimp only
      rw [if_pos rfl] at p6 ⊢
      refine ⟨m6, env5, h6, _, ⟨R6, N5.ex E6⟩, p6, fun w h7 p7 m7 H7 y7 E7 R7 r7 => ?_⟩
      have lt7 := E7.le
      have eD7 : m7 h1.length = D := (E7.eq _ (by omega)).trans eD6
      split at p7
      · rename_i acc e7
        obtain ⟨vs, a, r⟩ := R7.obj _ _ e7
        rw [eD7] at a
        refine ⟨vs, a, by rw [← r.length]; exact p7.1, ?_⟩
        have E8 := Ex.write (o := .lst (vs ++ [y7])) (e' := EO.lst (acc ++ [w])) R7 e7
        have R8 := R7.write (o := .lst (vs ++ [y7])) (e' := EO.lst (acc ++ [w])) e7 ⟨_, upd_same, (aO.ex E8 _ _ r).app (.one (aC.ex E8 _ _ r7))⟩
        rw [eD7] at E8 R8
        exact ⟨m7, _, (E16.trans E7).trans E8, R8, eD7, by simp; omega, p7.2⟩
      · exact p7.elim
  · have e : i = xs.length := by omega
    subst e
    rw [List.drop_length, lcE] at q
    obtain ⟨_, s2⟩ := sim xs.length h2 m2 H' E3 R3 q.1
    refine .inl ⟨s2 rfl, k _ _ q.2 m2 H' _ (E1.trans E3) R3 (by rw [aC]; exact ⟨lD, by rw [eD]⟩)⟩
theorem ls_setLc (i : Nat) {y : Str} {py : Pos} {elt tg iter : Expr} {ifs : List Expr} {scope : Scope} (own : List (Str × Nat)) {spos : Pos} {ti : LI} {p : Pat} {tt : LTt} {te : LT} (hc : X.calm = true) (hN : X.N.Nodup) (hi : LIt X tg iter ti) (ok : BlkOk X.N X.env.scope scope own)
    (hp : ∀ i ∈ Pat.slots p, i ∈ own.map (·.2))
    (hg : ∀ (s : Shared) (H : Hp) (C : Addr) (cl : List (Str × Addr)) (fp : List Addr), LG (X.blk s H scope (compEnvC scope cl C X.env) fp) tg p)
    (ht : ∀ (s : Shared) (H : Hp) (C : Addr) (cl : List (Str × Addr)) (fp : List Addr), LTs (X.blk s H scope (compEnvC scope cl C X.env) fp) ifs tt)
    (he : ∀ (s : Shared) (H : Hp) (C : Addr) (cl : List (Str × Addr)) (fp : List Addr), LE (X.blk s H scope (compEnvC scope cl C X.env) fp) elt te) (hy : X.N[i]? = some y := by rfl) (hyl : X.env.scope.names.lookup y = some .local := by rfl)
    (hsw : swapsWith (.ListComp elt [⟨tg, iter, ifs, 0⟩] scope pos) (some (.Name y py)) spos.line X.env = pure true := by exact sw_true rfl rfl rfl (by decide +kernel)) (hs : ∀ x, foldedSetIterable iter X.env x = pure x := by intro _; rfl) :
    LSt X (.Assign [.Name y py] (.ListComp elt [⟨tg, iter, ifs, 0⟩] scope pos) spos) (aY (lLc ti p tt te (own.map (·.2))) i) :=
  ⟨PS.imp (ps_setLc (g := gP X.K p) (tt := upT X.K tt) (te := up X.K te) hc hN hy hyl hsw hi.pi ok (fun s H C cl fp => (hg s H C cl fp).pg) (fun s H C cl fp => (ht s H C cl fp).pts) (fun s H C cl fp => (he s H C cl fp).pe) hs) fun D σ H ⟨m, env, h, P, at_, t1, k⟩ =>
    up_lc own hp σ H _ ⟨m, env, h, fun v h1 => P.nx (env.set i (some v)) h1, at_, t1, fun v h1 p1 m1 H1 x E1 R1 r1 => k.nx _ _ p1 m1 H1 _ E1 ⟨R1, (at_.nm.ex E1).set r1 i⟩⟩⟩
end
def lAug (f : Int → Int → Int) (i : Nat) (te : LT) : LS := fun D env h => match env[i]? with
  | some (some (.int a)) => te env h fun v h1 => match v with
    | .int b => D.nx (env.set i (some (.int (f a b)))) h1
    | _ => False
  | _ => False
theorem ls_aug {X : Cx} {pos pos' : Pos} (i : Nat) {x : Str} {e : Expr} {te : LT} {op : Operator} {f : Int → Int → Int} (ho : PIp X op (ipI f)) (hN : X.N.Nodup) (he : LE X e te) (hi : X.N[i]? = some x := by rfl) (hx : Loc X.env.scope x := by first | exact Or.inl rfl | exact Or.inr rfl)
    (hf : X.fn x = true ∨ X.env.scope.names.lookup x = some .local := by first | exact .inl rfl | exact .inr rfl) : LSt X (.AugAssign (.Name x pos') op e pos) (lAug f i te) := by
  refine ⟨PS.imp (ps_aug hN hi hx he.pe ho hf) fun D σ H ⟨m, env, h, P, at_, t1, k⟩ => ?_⟩
  unfold lAug at t1
  split at t1
  · rename_i a ea
    obtain ⟨x, ex, rx⟩ := at_.nm.2 _ _ ea
    refine ⟨x, ex, m, env, h, _, at_, t1, fun v h1 p1 m1 H1 y E1 R1 r1 => ?_⟩
    split at p1
    · rw [aC] at rx
      rw [aC] at r1
      exact ⟨_, _, rx, r1, k.nx _ _ p1 m1 H1 _ E1 ⟨R1, (at_.nm.ex E1).set (by rw [aC]) i⟩⟩
    · exact p1.elim
  · exact t1.elim
section
variable {X : Cx} {pos : Pos}
end
section
variable {X : Cx}
end
def lPar3 (i j l : Nat) (ta : LA) : LS := fun D env h => ta env h fun vs h1 => match vs with
  | [u, v, w] => D.nx (((env.set i (some u)).set j (some v)).set l (some w)) h1
  | _ => False
theorem ls_par3 {X : Cx} {pos : Pos} (i j l : Nat) {x y z : Str} {a b c : Expr} {ta : LA} {px py pz pt : Pos} {kt k2 pt2} (hc : X.calm = true) (hN : X.N.Nodup) (ha : LAs X [a, b, c] ta) (hi : X.N[i]? = some x := by rfl) (hj : X.N[j]? = some y := by rfl) (hl : X.N[l]? = some z := by rfl) (hij : i ≠ j := by decide) (hil : i ≠ l := by decide) (hjl : j ≠ l := by decide)
    (hx : X.env.scope.names.lookup x = some .local := by rfl) (hy : X.env.scope.names.lookup y = some .local := by rfl) (hz : X.env.scope.names.lookup z = some .local := by rfl)
    (hw : swappedStores [.Tuple [.Name x px, .Name y py, .Name z pz] kt pt] (.Tuple [a, b, c] k2 pt2) X.env = pure (some [x, y, z]) := by rfl)
    (hs : swapsWithSole [.Tuple [.Name x px, .Name y py, .Name z pz] kt pt] (.Tuple [a, b, c] k2 pt2) pos.line X.env = pure false := by rfl) :
    LSt X (.Assign [.Tuple [.Name x px, .Name y py, .Name z pz] kt pt] (.Tuple [a, b, c] k2 pt2) pos) (lPar3 i j l ta) := by
  refine ⟨PS.imp (ps_par3 hc hN hi hj hl hij hil hjl hx hy hz ha.pa hw hs) fun D σ H ⟨m, env, h, P, at_, t1, k⟩ => ⟨m, env, h, _, at_, t1, fun vs h1 p1 m1 H1 xs E1 R1 r1 => ?_⟩⟩
  split at p1
  · rw [aO] at r1
    obtain ⟨u, l1, rfl, a1, r1⟩ := r1
    obtain ⟨v, w, rfl, a2, a3⟩ := r1.two_inv
    exact ⟨u, v, w, rfl, k.nx _ _ p1 m1 H1 _ E1 ⟨R1, (((at_.nm.ex E1).set a1 i).set a2 j).set a3 l⟩⟩
  · exact p1.elim
def putO (i : Nat) (v : EV) (vs : List (Option EV)) : List (Option EV) := (vs ++ List.replicate (i + 1 - vs.length) Option.none).set i (some v)
theorem putO_get (i : Nat) (v : EV) (vs : List (Option EV)) : (putO i v vs)[i]? = some (some v) := by
  unfold putO
  exact List.getElem?_set_self (by simp only [List.length_append, List.length_replicate]; omega)
theorem putO_ne {i j : Nat} {v x : EV} {vs : List (Option EV)} (h : j ≠ i) : (putO i v vs)[j]? = some (some x) ↔ vs[j]? = some (some x) := by
  unfold putO
  rw [List.getElem?_set_ne (Ne.symm h)]
  by_cases hj : j < vs.length
  · rw [List.getElem?_append_left hj]
  · have e1 : vs[j]? = Option.none := List.getElem?_eq_none_iff.mpr (by omega)
    rw [e1, List.getElem?_append_right (by omega), List.getElem?_replicate]
    constructor
    · intro q
      split at q <;> cases q
    · intro q
      cases q
section
variable {K : PySem.W.Frag} {m : Nat → Addr} {n : Nat} {H : Hp}
theorem sqT_upd3 {a p : Addr} {xs : List V} {o : HO} (h : SqT K H a xs) (hp : ∀ u, H p = some u → (∀ ys, u ≠ .tup ys) ∧ ∀ q ys, u ≠ .frz q (.tup ys)) : SqT K (upd H p o) a xs := by
  rcases h with h | h
  · refine .inl ?_
    have ne : a ≠ p := by
      rintro rfl
      rcases h with h | ⟨q, h⟩
      · exact (hp _ h).1 _ rfl
      · exact (hp _ h).2 _ _ rfl
    rcases h with h | ⟨q, h⟩
    · exact .inl (by rw [upd_ne ne]; exact h)
    · exact .inr ⟨q, by rw [upd_ne ne]; exact h⟩
  · exact .inr h
theorem tk_upd3 {H : Hp} {a p : Addr} {xs : List V} {o : HO} (h : H a = some (.tup xs)) (hp : ∀ u, H p = some u → ∀ ys, u ≠ .tup ys) : upd H p o a = some (.tup xs) := by
  have ne : a ≠ p := by
    rintro rfl
    exact hp _ h _ rfl
  rw [upd_ne ne]; exact h
theorem cC.slot {h : EH} {r C dx : Nat} {vs : List (Option EV)} {ws : List (Option V)} {i : Nat} {v : EV} {x : V} (R : cC K m h H) (hr : h[r]? = some (.slo C vs)) (S : SlX.Slt H (m r) C dx ws) (ne : dx ≠ m r) (hd : H dx = some (.own (m r)) ∨ H dx = some (.xd []))
    (rw' : ∀ (j : Nat) (v : EV), vs[j]? = some (some v) → ∃ w, ws[j]? = some (some w) ∧ aC K m h.length H v w) (rx : aC K m h.length H v x) :
    Ex K m h.length H m (h.set r (.slo C (putO i v vs))).length (SlX.slH H (m r) C dx (SlX.putS i x ws)) ∧ cC K m (h.set r (.slo C (putO i v vs))) (SlX.slH H (m r) C dx (SlX.putS i x ws)) := by
  have hlt := (List.getElem?_eq_some_iff.mp hr).1
  have tops := R.tops hr
  have E : Ex K m h.length H m (h.set r (.slo C (putO i v vs))).length (SlX.slH H (m r) C dx (SlX.putS i x ws)) := by
    refine ⟨by simp, fun _ _ => rfl, fun a xs q => ?_, fun a xs q => ?_⟩
    · unfold SlX.slH
      refine sqT_upd3 (sqT_upd3 q fun u hu => ?_) fun u hu => ?_
      · rcases hd with z | z <;> rw [z] at hu <;> cases hu <;> exact ⟨fun _ z => (nomatch z), fun _ _ z => nomatch z⟩
      · rw [upd_ne (Ne.symm ne)] at hu
        exact ⟨(tops u hu).1, (tops u hu).2.1⟩
    · unfold SlX.slH
      refine tk_upd3 (tk_upd3 q fun u hu => ?_) fun u hu => ?_
      · rcases hd with z | z <;> rw [z] at hu <;> cases hu <;> exact fun _ z => nomatch z
      · rw [upd_ne (Ne.symm ne)] at hu
        exact (tops u hu).1
  refine ⟨E, ?_⟩
  have set_cases : ∀ {q : Nat} {u e' : EO}, (h.set r e')[q]? = some u → (q = r ∧ u = e') ∨ (q ≠ r ∧ h[q]? = some u) := fun {q u e'} hq => by
    by_cases z : r = q
    · subst z
      rw [List.getElem?_set_self hlt] at hq
      cases hq
      exact .inl ⟨rfl, rfl⟩
    · rw [List.getElem?_set_ne z] at hq
      exact .inr ⟨fun y => z y.symm, hq⟩
  refine ⟨fun q u hq => ?_, fun q p u v hq hp fu fv z => ?_⟩
  · rcases set_cases hq with ⟨rfl, rfl⟩ | ⟨z, hq⟩
    · have io := (R.obj _ _ hr).1
      refine ⟨io, dx, _, SlX.slH_slt ne, ne, .inr ?_, fun j y hj => ?_⟩
      · unfold SlX.slH
        rw [upd_ne ne, upd_same]
      · by_cases e : j = i
        · subst e
          rw [putO_get] at hj
          cases hj
          exact ⟨x, SlX.putS_get _ _ _, aC.ex E _ _ rx⟩
        · obtain ⟨w, ew, r1⟩ := rw' j y ((putO_ne e).mp hj)
          exact ⟨w, (SlX.putS_ne e).mpr ew, aC.ex E _ _ r1⟩
    · have Rq := R.obj q u hq
      have off : isF u = false → m q ≠ m r := fun fu y => z (R.inj q r u _ hq hr fu rfl y)
      by_cases fu : isF u = false
      · obtain ⟨c, hc, nt⟩ := Rq.there fu
        have nd : m q ≠ dx := by
          intro y
          rw [y] at hc
          rcases hd with z | z <;> rw [z] at hc <;> cases hc
          · exact nt.2.2.2.2 _ rfl
          · exact nt.2.2.2.1 _ rfl
        refine Rq.ex E (SlX.slH_ne (off fu) nd) fun b => ⟨fun e => ?_, fun e => ?_⟩
        · have nb : b ≠ m r := by
            rintro rfl
            exact (tops _ e).2.2.2.1 _ rfl
          unfold SlX.slH
          rw [upd_ne nb]
          by_cases y : b = dx
          · rw [y, upd_same]
          · rw [upd_ne y]; exact e
        · have nb : b ≠ m r := by
            rintro rfl
            exact (tops _ e).2.2.2.2 _ rfl
          have nd : b ≠ dx := by
            rintro rfl
            rcases hd with z | z
            · rw [z] at e
              injection e with e
              injection e with e
              exact off fu e.symm
            · rw [z] at e
              cases e
          rw [SlX.slH_ne nb nd]
          exact e
      · cases u with
        | frz xs =>
          obtain ⟨us, e, r1⟩ := Rq
          refine ⟨us, ?_, aO.ex E _ _ r1⟩
          rcases e with ⟨o, e⟩ | e
          · refine .inl ⟨o, ?_⟩
            have nb : m q ≠ m r := by
              intro y
              rw [y] at e
              exact (tops _ e).2.2.1 _ _ rfl
            have nd : m q ≠ dx := by
              intro y
              rw [y] at e
              rcases hd with z | z <;> rw [z] at e <;> cases e
            rw [SlX.slH_ne nb nd]
            exact e
          · exact .inr e
        | xob fs =>
          obtain ⟨l, e, r1⟩ := Rq
          refine ⟨l, ?_, qZ.ex E _ _ r1⟩
          have nb : m q ≠ m r := by
            intro y
            rw [y] at e
            exact (tops _ e).2.2.2.1 _ rfl
          by_cases nd : m q = dx
          · rw [nd] at e ⊢
            rcases hd with z | z
            · rw [z] at e; cases e
            · rw [z] at e
              cases e
              unfold SlX.slH
              rw [upd_ne ne, upd_same]
          · rw [SlX.slH_ne nb nd]
            exact e
        | mark m0 n0 H0 => exact Ex.trans Rq E
        | _ => exact absurd rfl fu
  · rcases set_cases hq with ⟨a, a'⟩ | ⟨a, hq'⟩ <;> rcases set_cases hp with ⟨b, b'⟩ | ⟨b, hp'⟩
    · rw [a, b]
    · rw [a] at z; exact absurd (R.inj p r v _ hp' hr fv rfl z.symm) b
    · rw [b] at z; exact absurd (R.inj q r u _ hq' hr fu rfl z) a
    · exact R.inj q p u v hq' hp' fu fv z
end
abbrev STab := List (Addr × Nat)
def attrE (tab : STab) (v : EV) (h : EH) (P : EV → Prop) : Prop := match v with
  | .ref r => match h[r]? with
    | some (.slo C vs) => match tab.lookup C with
      | some i => match vs[i]? with
        | some (some x) => P x
        | _ => False
      | none => False
    | _ => False
  | _ => False
def SlotOf (K : PySem.W.Frag) (f : Str) (tab : STab) : Prop := ∀ q ∈ tab, SlX.SCls K q.1 ∧ ∃ p, SlX.Slot1 K q.1 f p q.2
def lSetAt (tab : STab) (to tv : LT) : LS := fun D env h => tv env h fun v h1 => to env h1 fun o h2 => match o with
  | .ref r => match h2[r]? with
    | some (.slo C vs) => match tab.lookup C with
      | some i => D.nx env (h2.set r (.slo C (putO i v vs)))
      | none => False
    | _ => False
  | _ => False
section
variable {X : Cx} {pos pos' apos : Pos} {o e : Expr} {es : List Expr} {to te : LT} {t : LA} {f x : Str}
theorem ls_attr {tab : STab} (T : SlotOf X.K f tab) (ho : LE X o to) (hv : LE X e te) (hs : swapsWith e (some (.Attribute o f pos')) pos.line X.env = pure false := by rfl) : LSt X (.Assign [.Attribute o f pos'] e pos) (lSetAt tab to te) := by
  refine ⟨PS.imp (SlX.ps_sl ho.pe hv.pe hs) fun D σ H ⟨m, env, h, P, at_, t1, k⟩ => ⟨m, env, h, _, at_, t1, fun v h1 p1 m1 H1 x E1 R1 r1 => ⟨m1, env, h1, _, at_.ex E1 R1, p1, fun o h2 p2 m2 H2 y E2 R2 r2 => ?_⟩⟩⟩
  split at p2
  · rw [aC] at r2
    obtain ⟨_, rfl⟩ := r2
    split at p2
    · rename_i C vs e
      obtain ⟨io, dx, ws, s, ne, hd, r⟩ := R2.obj _ _ e
      split at p2
      · rename_i i ei
        obtain ⟨c, p, sl⟩ := T _ (lookup_mem ei)
        have Z := R2.slot (i := i) e s ne hd r (aC.ex E2 _ _ r1)
        exact ⟨_, C, dx, p, ws, i, rfl, s, c, sl, k.nx _ _ p2 m2 _ σ ((E1.trans E2).trans Z.1) (((at_.ex E1 R1).ex E2 R2).ex Z.1 Z.2)⟩
      · exact p2.elim
    · exact p2.elim
  · exact p2.elim
def lMake (C : Addr) (sp : LSp) (t : LA) : LT := fun env h P => t env h fun vs h1 => sp (.ref h1.length :: vs) (h1 ++ [.slo C []]) fun v h2 => v = .non ∧ P (.ref h1.length) h2
variable {k : Nat} {g C : Addr} {fd : FuncData} {ps : List Str} {sp : LSp} {p : Pos}
theorem guards_make {A : Around} (C : Addr) (us : List Value) (hG : A.guards = some []) : (A.under (.builtin "type.__call__" ⟨.ref C :: us, []⟩)).guards = some [] := by
  first | exact hG | simp [Around.under, Code.weight, Code.isCreation, Code.isGuard, Code.isCaller, Code.frames, Code.isFrame, guardIds, hG]
theorem runMk {pins : List (Addr × Obj)} {σ : L2.St} {H : Hp} {s : Shared} {Q : VK} {us : List Value} {vs : List V} (M : Mk X.K C g) (F : FnG X.prog X.w X.K X.mg X.base k g fd ps sp) (hr : Room (k + 1) X.A) (hG : X.A.guards = some []) (hb : Binds X.K fd ps [])
    (I : Inv X pins σ H s) (r : Vals vs us)
    (h : ∀ x dx, H x = none → H dx = none → dx ≠ x → upSp X.K sp (.ref x :: vs) (upd (upd H dx (.own x)) x (.ins C dx [])) (fun v H2 => v = .non ∧ Q (.ref x) H2)) :
    wpAny (model X.prog X.w) X.A (call (.ref C) us) (EP X pins σ Q) X.xe s := by
  have hq := h (s.heap.objs.size + 1) s.heap.objs.size (I.hok.fresh (Nat.le_succ _)) (I.hok.fresh (Nat.le_refl _)) (Nat.ne_of_lt (Nat.lt_succ_self _))
  have I2 := Inv.made (C := C) I
  have r2 : Vals (V.ref (s.heap.objs.size + 1) :: vs) (Value.ref (s.heap.objs.size + 1) :: us) := .cons rfl r
  have hl : (Value.ref (s.heap.objs.size + 1) :: us).length = ps.length := by
    have e := r2.length
    rw [upSp.len F.len hq] at e
    exact e.symm
  have b := hb _ (Value.ref (s.heap.objs.size + 1) :: us) I2.kIn (by rw [List.append_nil]; exact hl)
  rw [List.append_nil] at b
  refine wpAny_call (make_map (f := g) I.kIn M.makes M.init (beq_iff_eq.mp M.fn) (codeAny_mono (F.run _ X.stack _ _ ⟨Value.ref (s.heap.objs.size + 1) :: us, []⟩ (Value.ref (s.heap.objs.size + 1) :: us) _ _ (hr.make C us []) (guards_make C us hG)
    (I2.env0.make C us []) b r2 hq) fun r s' hq' => ?_))
  match r, hq' with
  | .error _, ho => exact ho.elim
  | .ok (.ret u), ho =>
    obtain ⟨v, H', I3, rv, ev, q3⟩ := I2.after ho
    subst ev
    exact ⟨rv, ⟨V.ref (s.heap.objs.size + 1), H', I3, rfl, q3⟩⟩
  | .ok .next, ho => exact ho.elim
  | .ok .brk, ho => exact ho.elim
  | .ok .cont, ho => exact ho.elim
theorem up_make {K : PySem.W.Frag} (io : IsiOk K C) (σ : L2.St) (H : Hp) (Q : VK) (q : up K (lMake C sp t) σ H Q) : upA K t σ H fun vs H1 => ∀ x dx, H1 x = none → H1 dx = none → dx ≠ x → upSp K sp (.ref x :: vs) (upd (upd H1 dx (.own x)) x (.ins C dx [])) (fun v H2 => v = .non ∧ Q (.ref x) H2) := by
  obtain ⟨m, env, h, P, at_, t1, k⟩ := q
  refine ⟨m, env, h, _, at_, t1, fun vs h1 p1 m1 H1 xs E1 R1 r1 x dx hx hdx ne => ?_⟩
  have E2 : Ex K m1 h1.length H1 m1 h1.length (upd H1 dx (.own x)) := Ex.tup1 hdx
  have R2 := R1.tup (o := .own x) hdx
  have hx2 : upd H1 dx (.own x) x = none := by rw [upd_ne (Ne.symm ne)]; exact hx
  have E3 : Ex K m1 h1.length (upd H1 dx (.own x)) (oU m1 h1.length x) (h1 ++ [EO.slo C []]).length (upd (upd H1 dx (.own x)) x (.ins C dx [])) := Ex.new hx2
  have R3 : cC K (oU m1 h1.length x) (h1 ++ [EO.slo C []]) (upd (upd H1 dx (.own x)) x (.ins C dx [])) := R2.new hx2 ⟨io, dx, [], .inl ⟨upd_same, rfl⟩, ne, .inl (by rw [upd_ne ne, upd_same]), fun i v q => by simp at q⟩
  have E := E2.trans E3
  refine ⟨oU m1 h1.length x, _, _, _, R3, .cons (by rw [aC]; exact ⟨by simp, by rw [jx]⟩) (aO.ex E _ _ r1), p1, fun v h2 p2 m2 H2 y E4 R4 r4 => ?_⟩
  obtain ⟨rfl, p2⟩ := p2
  rw [aC] at r4
  refine ⟨r4, k _ _ p2 m2 H2 _ ((E1.trans E).trans E4) R4 ?_⟩
  have lt := E4.le
  simp only [List.length_append, List.length_singleton] at lt
  rw [aC]
  refine ⟨by omega, ?_⟩
  rw [E4.eq h1.length (by simp), jx]
theorem le_make (io : IsiOk X.K C) (M : Mk X.K C g) (F : FnG X.prog X.w X.K X.mg X.base k g fd ps sp) (hr : Room (k + 1) X.A) (hG : X.A.guards = some []) (hg : Gl X x) (hm : X.mg x = some (.ref C)) (hb : Binds X.K fd ps [])
    (ha : LAs X (e :: es) t) (hdb : (x == ("__debug__" : Str)) = false := by decide) (he : starEach (e :: es) X.env = (false, eval e X.env) :: starEach es X.env := by rfl) (hpl : (backTo pos (starEach es X.env)).any (·.1) = false := by rfl) :
    LE X (.Call (.Name x p) (e :: es) [] pos) (lMake C sp t) :=
  ⟨⟨fun pins s σ H Q I q => wpAny_Call_Name_kw (ld_glob I hg hm (PySem.W.callWith_K (h₀ := X.base) I.ok.mod.kin M.kp (thn (ha.pa.run pos pins s σ H _ I (up_make io σ H Q q)) fun us s1 ⟨vs, H1, I1, r, q1⟩ =>
    ⟨I1.kIn, runMk M F hr hG hb I1 r q1⟩) he hpl) hdb)⟩⟩
end
def lLockE (t : LT) : LT := fun env h P => ∃ r kvs, h[r]? = some (.dic kvs) ∧ ∀ od l, t env (h.set r (.dlk od l kvs)) fun v h' => h'[r]? = some (.dlk od l kvs) ∧ P v (h'.set r (.dic kvs))
theorem le_lock {X : Cx} {e : Expr} {t : LT} (he : LE X e t) : LE X e (lLockE t) := by
  refine ⟨PE.imp (pe_lock he.pe) fun σ H Q ⟨m, env, h, P, at_, t1, k⟩ => ?_⟩
  obtain ⟨r, kvs, er, t1⟩ := t1
  obtain ⟨l, a, rl⟩ := at_.hp.obj _ _ er
  refine ⟨m r, .dK l, a, trivial, fun od => ?_⟩
  have E := Ex.write (o := .frz od (.dK l)) (e' := EO.dlk od l kvs) at_.hp er
  have R := at_.hp.write (o := .frz od (.dK l)) (e' := EO.dlk od l kvs) er ⟨upd_same, rl.ex E⟩
  refine ⟨m, env, _, _, at_.ex E R, t1 od l, fun v h' p m' H' x E' R' r' => ?_⟩
  have hr := jQ er
  have em : m' r = m r := E'.eq r (by simpa using hr)
  obtain ⟨a', rl'⟩ := R'.obj _ _ p.1
  rw [em] at a'
  refine ⟨a', ?_⟩
  have E2 := Ex.write (o := .dK l) (e' := EO.dic kvs) R' p.1
  have R2 := R'.write (o := .dK l) (e' := EO.dic kvs) p.1 ⟨l, upd_same, rl'.ex E2⟩
  rw [em] at E2 R2
  exact k _ _ p.2 m' _ _ ((E.trans E').trans E2) R2 (aC.ex E2 _ _ r')
theorem bH.at {K : PySem.W.Frag} {m : Nat → Addr} {n : Nat} {H : Hp} : ∀ {es : List (EV × EV)} {l : List (L2.Key × V)} {i : Nat} {p : EV × EV}, bH K m n H es l → es[i]? = some p → ∃ k v, l[i]? = some (k, v) ∧ aC K m n H p.1 (kV k) ∧ aC K m n H p.2 v
  | [], l, i, p, r, e => by simp at e
  | (a, x) :: es, l, 0, p, r, e => by
    rw [bH] at r
    obtain ⟨k, v, l', rfl, ra, rx, r⟩ := r
    simp at e
    subst e
    exact ⟨k, v, rfl, ra, rx⟩
  | (a, x) :: es, l, i + 1, p, r, e => by
    rw [bH] at r
    obtain ⟨k, v, l', rfl, ra, rx, r⟩ := r
    obtain ⟨k2, v2, e2, b⟩ := bH.at (i := i) r (by simpa using e)
    exact ⟨k2, v2, by simpa using e2, b⟩
def lItems (te : LT) : LI := fun env h P => te env h fun v h1 => match v with
  | .ref r => match h1[r]? with
    | some (.dlk o l kvs) => P (fun h' => h'[r]? = some (.dlk o l kvs)) (kvs.map fun p => EV.tup [p.1, p.2]) h1
    | _ => False
  | _ => False
theorem lit_items {X : Cx} {e : Expr} {te : LT} {elts : List Expr} {kk : Nat} {tpos apos cpos : Pos} (he : LE X e te) (hbase : attributeBase e "items" X.env (eval e X.env) = eval e X.env := by rfl) (hline : (apos.endLine == cpos.line) = true := by rfl) :
    LIt X (.Tuple elts kk tpos) (.Call (.Attribute e "items" apos) [] [] cpos) (lItems te) := by
  refine ⟨PI.imp (pi_items he.pe hbase hline) fun σ H R ⟨m, env, h, P, at_, t1, k⟩ => ⟨m, env, h, _, at_, t1, fun v h1 p1 m1 H1 x E1 R1 r1 => ?_⟩⟩
  split at p1
  · rename_i r
    rw [aC] at r1
    obtain ⟨hr, rfl⟩ := r1
    split at p1
    · rename_i o l kvs er
      obtain ⟨a, rl⟩ := R1.obj _ _ er
      refine ⟨_, o, l, rfl, a, k _ _ h1 p1 m1 H1 _ E1 R1 fun i h' m' H' E' R' gh => ?_⟩
      obtain ⟨a', rl'⟩ := R'.obj _ _ gh
      rw [E'.eq _ hr] at a'
      have ll := bH.length rl'
      refine ⟨fun z hz => ?_, fun hi => ⟨a', by rw [List.length_map] at hi; omega⟩⟩
      rw [List.getElem?_map] at hz
      obtain ⟨p, hp, rfl⟩ := Option.map_eq_some_iff.mp hz
      obtain ⟨k2, v2, e2, ra, rb⟩ := bH.at rl' hp
      refine ⟨⟨a', (List.getElem?_eq_some_iff.mp e2).1⟩, fun v H2 ⟨T, k3, v3, e3, ev, hT, eH⟩ => ?_⟩
      rw [e2] at e3
      cases e3
      subst ev eH
      exact rel_pair R' hT ra rb
    · exact p1.elim
  · exact p1.elim
def tyE (v : EV) (h : EH) : Option String := match v with
  | .non => some "NoneType"
  | .bl _ => some "bool"
  | .int _ => some "int"
  | .str _ => some "str"
  | .ref r => match h[r]? with
    | some (.lst _) => some "list"
    | some (.dic _) => some "dict"
    | some (.slo _ _) => some "?"
    | _ => none
  | .tup _ => some "tuple"
  | .ktup _ => some "tuple"
  | _ => none
def isiB (t T : String) : Bool := t == T || (t == "bool" && T == "int")
def sE : LC := fun vs h P => match vs with
  | [v, .ty T] => match tyE v h with
    | some t => (T = "int" ∨ T = "bool" ∨ T = "str" ∨ T = "tuple" ∨ T = "dict" ∨ T = "list") ∧ P (.bl (isiB t T)) h
    | none => False
  | _ => False
theorem isi_tab : ∀ t ∈ ["NoneType", "bool", "int", "str", "list", "dict", "tuple"], ∀ T ∈ ["int", "bool", "str", "tuple", "dict", "list"], kitB t T = some (isiB t T) := by decide +kernel
theorem ou {X : Cx} {x : Str} {pos : Pos} (T : String) (hg : Gl X x) (hm : X.mg x = none) (hv : bootBuiltins x = some (.type T)) (hn : x ≠ "__name__" := by decide) (hdb : (x == ("__debug__" : Str)) = false := by decide) : LE X (.Name x pos) (lC (.ty T)) :=
  ⟨⟨fun pins s σ H Q I ⟨m, env, h, P, at_, t1, k⟩ => ld_blt I hg hm hv (s := s) ⟨.ty T, H, I, rfl, k _ _ t1 m H _ .refl at_.hp (by rw [aC])⟩ hn hdb⟩⟩
section
open PySem.W
variable {prog : Program} {w : World} {A : Around} {E : Value → Shared → Prop} {s : Shared} {K : PySem.W.Frag} {x D : Addr} {ox od : Obj}
theorem cls_some (h : isClsIn K D = true) : ∃ cd, clsIn K D = some cd := Option.isSome_iff_exists.mp h
theorem kin_class2 {Q : Option Value → Shared → Prop} (io : IsiOk K D) (X : K.In s.heap) (I : InstAt s.heap x ox D (some od)) (h : Q (some (.ref D)) { s with toks := s.toks + 1 }) : wpAny (model prog w) A (getAttr? (.ref x) "__class__") Q E s := by
  have hf : findObj K D (some od) "__class__" = some (.bind (.builtin "getset_descriptor.__get__") (.builtin "object.__class__")) := findObj_data (by obtain ⟨cd, hc⟩ := cls_some io.ic; rw [hc]; rfl) io.cl io.gt io.tk
  exact kin_open X I (plainGet_of io.pg).1 (kin_hooked (s := { s with toks := s.toks + 1 }) X I hf (plainGet_of io.pg).2
    (wpAny_call (class_get (s := { s with toks := s.toks + 1 }) (ox := ox) (od := some od) X I io.mo (handed_on rfl h))))
theorem kitx_own2 (io : IsiOk K D) : KitX K (.ref x) (.ref D) (fun h => InstAt h x ox D (some od)) where
  ty := fun _ _ _ I => I.type
  it := fun _ _ X _ => by
    obtain ⟨cdD, hcD⟩ := cls_some io.ic
    unfold clsIn at hcD
    split at hcD
    · rename_i c' d' cd' sl' ho
      intro A' Q' E' s' k q
      unfold isType loadHead
      exact wpAny_bind (wpAny_loadPart (k _ _ (X _ _ ho)) (wpAny_pure q))
    · cases hcD
  ne := fun h tp dd its n sl X htp => by
    obtain ⟨cdD, hcD⟩ := cls_some io.ic
    refine Bool.eq_false_iff.mpr fun q => ?_
    have e : D = tp := Value.ref.inj (beq_iff_eq.mp q)
    subst e
    unfold clsIn at hcD
    split at hcD
    · rename_i c' d' cd' sl' ho
      have z := (X _ _ ho).symm.trans htp
      cases z
    · cases hcD
  ca := fun X I k => kin_class2 io X I k
end
def IsSl (K : PySem.W.Frag) (H : Hp) (a C : Addr) : Prop := IsiOk K C ∧ ∃ dx ws, SlX.Slt H a C dx ws ∧ (H dx = some (.own a) ∨ H dx = some (.xd []))
theorem IsSl.at {X : Cx} {pins : List (Addr × Obj)} {σ : L2.St} {H : Hp} {s : Shared} {a C : Addr} (I : Inv X pins σ H s) (z : IsSl X.K H a C) : ∃ ox od, PySem.W.InstAt s.heap a ox C (some od) := by
  obtain ⟨io, dx, ws, sl, hd⟩ := z
  have hdx : ∃ od, s.heap.get? dx = some od := by
    rcases hd with hd | hd
    · exact I.hok dx _ hd
    · obtain ⟨mA, ⟨od, es, ep, e, _⟩, _⟩ := I.hok dx _ hd
      exact ⟨od, e⟩
  obtain ⟨od, hod⟩ := hdx
  rcases sl with ⟨e, _⟩ | ⟨e, _⟩
  · obtain ⟨d, _, ne, e1, _⟩ := I.hok a _ e
    exact ⟨_, od, e1, rfl, rfl, hod⟩
  · have e' := I.hok a _ e
    unfold SlX.SlO at e'
    obtain ⟨⟨sl, e1, _⟩, _⟩ := e'
    exact ⟨_, od, e1, rfl, rfl, hod⟩
def rIsiS (K : PySem.W.Frag) : List V → Hp → VK → Prop := fun xs H Q => ∃ a C T, xs = [.ref a, .ty T] ∧ IsSl K H a C ∧ T ∈ ["int", "bool", "str", "tuple", "dict", "list"] ∧ Q (.bl false) H
theorem call_isiS {X : Cx} : CallR X (.builtin "isinstance") (rIsiS X.K) := by
  intro pins s σ H xs us Q I r h
  obtain ⟨a, C, T, rfl, z, hT, q⟩ := h
  obtain ⟨u1, u2, rfl, r1, r2⟩ := vals2 r
  cases (show u1 = Value.ref a from r1)
  cases (show u2 = Value.type T from r2)
  obtain ⟨ox, od, J⟩ := z.at I
  exact PySem.W.kia_one (kitx_own2 z.1) I.kIn J (z.1.ty T hT) (fun y => nomatch y) fun tk => ⟨.bl false, H, I.tok tk, rfl, q⟩
theorem pq {X : Cx} : nH X (.builtin "isinstance") sE := by
  refine ⟨_, CallR.or call_isi call_isiS, fun m h H vs xs P Q R r0 q k => ?_⟩
  unfold sE at q
  split at q
  · obtain ⟨x, y, rfl, r1, r2⟩ := r0.two_inv
    rw [aC] at r2
    subst r2
    split at q
    · rename_i v T _ t et
      have hT : T ∈ ["int", "bool", "str", "tuple", "dict", "list"] := by
        rcases q.1 with z | z | z | z | z | z <;> rw [z] <;> simp
      by_cases hs : t = "?"
      · subst hs
        refine .inr ?_
        obtain ⟨r, C, vs, rfl, e⟩ : ∃ r C vs, v = .ref r ∧ h[r]? = some (.slo C vs) := by
          unfold tyE at et
          split at et <;> first
            | (rename_i r; split at et <;> first | (rename_i C vs e; exact ⟨r, C, vs, rfl, e⟩) | (simp at et; done))
            | (simp at et; done)
        rw [aC] at r1
        obtain ⟨_, rfl⟩ := r1
        obtain ⟨io, dx, ws, sl, _, hd, _⟩ := R.obj _ _ e
        have qf : isiB "?" T = false := by
          simp only [List.mem_cons, List.not_mem_nil, or_false] at hT
          rcases hT with z | z | z | z | z | z <;> rw [z] <;> rfl
        rw [qf] at q
        exact ⟨_, _, T, rfl, ⟨io, dx, ws, sl, hd⟩, hT, k.same R q.2 (by rw [aC])⟩
      have ty : TyX X.K H x (.type t) := by
        unfold tyE at et
        split at et
        · rw [aC] at r1; subst r1; cases et; exact .base .non
        · rw [aC] at r1; subst r1; cases et; exact .base (.bl _)
        · rw [aC] at r1; subst r1; cases et; exact .base (.int _)
        · rw [aC] at r1; subst r1; cases et; exact .base (.str _)
        · rw [aC] at r1
          obtain ⟨_, rfl⟩ := r1
          split at et
          · rename_i e
            obtain ⟨us, a, _⟩ := R.obj _ _ e
            cases et; exact .base (.lst a)
          · rename_i e
            obtain ⟨us, a, _⟩ := R.obj _ _ e
            cases et; exact .base (.dK a)
          · cases et; exact absurd rfl hs
          · cases et
        · rw [aC] at r1
          obtain ⟨a, us, rfl, ha, _⟩ := r1
          cases et
          exact .base (.tup ha)
        · rw [aC] at r1
          obtain ⟨a, us, rfl, ha, _⟩ := r1
          cases et
          rcases ha with (ha | ⟨o, ha⟩) | ⟨o, its, n, hk, hc, _⟩
          · exact .base (.tup ha)
          · exact .fTuple ha
          · exact .kTuple hk hc
        · cases et
      have ht : t ∈ ["NoneType", "bool", "int", "str", "list", "dict", "tuple"] := by
        unfold tyE at et
        split at et <;> first | (cases et; simp; done) | (cases et; done) | (split at et <;> first | (cases et; simp; done) | (cases et; done) | (cases et; exact absurd rfl hs))
      exact .inl ⟨x, _, _, _, _, rfl, .ty T, ty, kit_ty (isi_tab t ht T hT), k.same R q.2 (by rw [aC])⟩
    · exact q.elim
  · exact q.elim
def sortE : LC := fun vs h P => match vs with
  | [.ref r] => match h[r]? with
    | some (.dic kvs) => ∃ ks : List Int, kvs.map (·.1) = ks.map EV.int ∧ ks.length < 64 ∧ ∀ ys : List Int, ys.Perm ks → ys.Pairwise (· ≤ ·) → P (.ref h.length) (h ++ [.lst (ys.map EV.int)])
    | _ => False
  | _ => False
theorem bH.keysI {K : PySem.W.Frag} {m : Nat → Addr} {n : Nat} {H : Hp} : ∀ {es : List (EV × EV)} {l : List (L2.Key × V)} {ks : List Int}, bH K m n H es l → es.map (·.1) = ks.map EV.int → l.map (·.1) = ks.map Sum.inl
  | [], l, ks, r, e => by
    rw [bH] at r
    subst r
    cases ks with
    | nil => rfl
    | cons => simp at e
  | (a, x) :: es, l, ks, r, e => by
    rw [bH] at r
    obtain ⟨k, v, l', rfl, ra, _, r⟩ := r
    cases ks with
    | nil => simp at e
    | cons i ks =>
      rw [List.map_cons, List.map_cons, List.cons.injEq] at e
      obtain ⟨e1, e2⟩ := e
      have e1 : a = EV.int i := e1
      subst e1
      rw [aC] at ra
      have : k = Sum.inl i := by
        cases k with
        | inl j => injection ra with z; rw [z]
        | inr s => cases ra
      rw [List.map_cons, List.map_cons, bH.keysI r e2, this]
theorem lc_sorted {X : Cx} (hc : X.calm = true) : nH X (.builtin "sorted") sortE := by
  refine ⟨_, call_sortedDI hc, fun m h H vs xs P Q R r0 q k => ?_⟩
  unfold sortE at q
  split at q
  · obtain ⟨v, rfl, r⟩ := r0.one_inv
    rw [aC] at r
    obtain ⟨_, rfl⟩ := r
    split at q
    · rename_i e
      obtain ⟨l, a, rl⟩ := R.obj _ _ e
      obtain ⟨ks, ek, hl, q⟩ := q
      exact ⟨_, l, ks, rfl, .inl a, rl.keysI ek, hl, fun ys p hp hs hn => k.lst R (q ys hp hs) (rel_ints ys) hn⟩
    · exact q.elim
  · exact q.elim
def dcE (g : EH → Prop) (p : Pat) (tt : LTt) (tk tv : LT) (d : Nat) (env : En) (P : EK) : List EV → EH → Prop
  | [], h => g h ∧ P (.ref d) h
  | x :: xs, h => g h ∧ gq h p x env fun env2 => tt env2 h fun b h3 => if b = true then tk env2 h3 fun y h4 => tv env2 h4 fun z h5 => match h5[d]? with
      | some (.dic kvs) => isKey y ∧ kvs.length < sizeLine ∧ dcE g p tt tk tv d env P xs (h5.set d (.dic (dPut kvs y z)))
      | _ => False
    else dcE g p tt tk tv d env P xs h3
def lDc (ti : LI) (p : Pat) (tt : LTt) (tk tv : LT) (vs : List Nat) : LT := fun env h P => ti env h fun g xs h1 => dcE g p tt tk tv h1.length (cA env vs) P xs (h1 ++ [.dic []])
section
variable {X : Cx} {pos : Pos}
theorem le_dc {kx vx tg iter : Expr} {ifs : List Expr} {scope : Scope} (own : List (Str × Nat)) {ti : LI} {p : Pat} {tt : LTt} {tk tv : LT} (hc : X.calm = true) (hN : X.N.Nodup) (hi : LIt X tg iter ti) (ok : BlkOk X.N X.env.scope scope own)
    (hp : ∀ i ∈ Pat.slots p, i ∈ own.map (·.2))
    (hg : ∀ (s : Shared) (H : Hp) (C : Addr) (cl : List (Str × Addr)) (fp : List Addr), LG (X.blk s H scope (compEnvC scope cl C X.env) fp) tg p)
    (ht : ∀ (s : Shared) (H : Hp) (C : Addr) (cl : List (Str × Addr)) (fp : List Addr), LTs (X.blk s H scope (compEnvC scope cl C X.env) fp) ifs tt)
    (hk : ∀ (s : Shared) (H : Hp) (C : Addr) (cl : List (Str × Addr)) (fp : List Addr), LE (X.blk s H scope (compEnvC scope cl C X.env) fp) kx tk)
    (he : ∀ (s : Shared) (H : Hp) (C : Addr) (cl : List (Str × Addr)) (fp : List Addr), LE (X.blk s H scope (compEnvC scope cl C X.env) fp) vx tv) (hs : ∀ x, foldedSetIterable iter X.env x = pure x := by intro _; rfl) :
    LE X (.DictComp kx vx [⟨tg, iter, ifs, 0⟩] scope pos) (lDc ti p tt tk tv (own.map (·.2))) := by
  refine ⟨PE.imp (pe_dc (g := gP X.K p) (tt := upT X.K tt) (tk := up X.K tk) (tv := up X.K tv) hc hN hi.pi ok (fun s H C cl fp => (hg s H C cl fp).pg) (fun s H C cl fp => (ht s H C cl fp).pts) (fun s H C cl fp => (hk s H C cl fp).pe) (fun s H C cl fp => (he s H C cl fp).pe) hs) fun σ H Q ⟨m, env, h, P, at_, t1, k⟩ => ⟨m, env, h, _, at_, t1, fun g xs h1 p1 m1 H1 J E1 R1 sim D hD => ?_⟩⟩
  have E2 : Ex X.K m1 h1.length H1 (oU m1 h1.length D) (h1 ++ [EO.dic []]).length (upd H1 D (.dK [])) := Ex.new hD
  have R2 : cC X.K (oU m1 h1.length D) (h1 ++ [EO.dic []]) (upd H1 D (.dK [])) := R1.new hD ⟨[], upd_same, rfl⟩
  refine ⟨fun i c H' => c = xs.length - i ∧ i ≤ xs.length ∧ ∃ m2 h2, Ex X.K m1 h1.length H1 m2 h2.length H' ∧ cC X.K m2 h2 H' ∧ m2 h1.length = D ∧ h1.length < h2.length ∧ dcE g p tt tk tv h1.length (cA env (own.map (·.2))) P (xs.drop i) h2,
    ⟨xs.length, by simp, Nat.zero_le _, _, _, E2, R2, jx, by simp, by simpa using p1⟩, ?_⟩
  rintro i c H' ⟨rfl, hi, m2, h2, E3, R3, eD, lD, q⟩
  by_cases hlt : i < xs.length
  · have ed : xs.drop i = xs[i] :: xs.drop (i + 1) := List.drop_eq_getElem_cons hlt
    rw [ed, dcE] at q
    obtain ⟨qg, q⟩ := q
    obtain ⟨s1, s2⟩ := sim i h2 m2 H' E3 R3 qg
    obtain ⟨go, yl⟩ := s1 xs[i] (List.getElem?_eq_getElem hlt)
    refine .inr ⟨go, fun H4 => ∃ m4 h4, Ex X.K m1 h1.length H1 m4 h4.length H4 ∧ cC X.K m4 h4 H4 ∧ m4 h1.length = D ∧ h1.length < h4.length ∧ dcE g p tt tk tv h1.length (cA env (own.map (·.2))) P (xs.drop (i + 1)) h4,
      fun H4 q4 => ⟨xs.length - (i + 1), by omega, rfl, hlt, q4⟩, fun v H4 y => ?_⟩
    obtain ⟨E4, R4, r4⟩ := yl v H4 y
    have E14 := (E1.trans E3).trans E4
    obtain ⟨env5, σ5, q5, f, N5, keep, len⟩ := bind_sim R4 ((at_.nm.ex E14).wipe (own.map (·.2))) r4 q
    refine f _ ⟨wipe_back (ss := Pat.slots p) keep hp (by rw [len, wipe_length]), m2, env5, h2, _, ⟨R4, N5⟩, q5, fun b h6 p6 m6 H6 E6 R6 => ?_⟩
    have E16 := (E3.trans E4).trans E6
    have lt2 := E6.le
    have eD6 : m6 h1.length = D := (E6.eq _ lD).trans eD
    cases b with
    | false =>
      dsimp only
      rw [if_neg Bool.false_ne_true] at p6 ⊢
      exact ⟨m6, h6, E16, R6, eD6, by omega, p6⟩
    | true =>
      dsimp only
      rw [if_pos rfl] at p6 ⊢
      refine ⟨m6, env5, h6, _, ⟨R6, N5.ex E6⟩, p6, fun w h7 p7 m7 H7 y7 E7 R7 r7 => ⟨m7, env5, h7, _, ⟨R7, (N5.ex E6).ex E7⟩, p7, fun z h8 p8 m8 H8 z8 E8 R8 r8 => ?_⟩⟩
      have lt7 := E7.le
      have lt8 := E8.le
      have eD8 : m8 h1.length = D := ((E8.eq _ (by omega)).trans (E7.eq _ (by omega))).trans eD6
      split at p8
      · rename_i kvs e8
        obtain ⟨l, a, rl⟩ := R8.obj _ _ e8
        obtain ⟨hkey, hz, p8⟩ := p8
        have r7' := aC.ex E8 _ _ r7
        obtain ⟨k', rfl⟩ := key_of hkey r7'
        rw [eD8] at a
        have ll := bH.length rl
        refine ⟨l, k', rfl, a, by omega, ?_⟩
        have E9 := Ex.write (o := .dK (putK l k' z8)) (e' := EO.dic (dPut kvs w z)) R8 e8
        have R9 := R8.write (o := .dK (putK l k' z8)) (e' := EO.dic (dPut kvs w z)) e8 ⟨_, upd_same, bH.put (aC.ex E9 _ _ r7') hkey (aC.ex E9 _ _ r8) (rl.ex E9)⟩
        rw [eD8] at E9 R9
        exact ⟨m8, _, ((E16.trans E7).trans E8).trans E9, R9, eD8, by simp; omega, p8⟩
      · exact p8.elim
  · have e : i = xs.length := by omega
    subst e
    rw [List.drop_length, dcE] at q
    obtain ⟨_, s2⟩ := sim xs.length h2 m2 H' E3 R3 q.1
    refine .inl ⟨s2 rfl, k _ _ q.2 m2 H' _ (E1.trans E3) R3 (by rw [aC]; exact ⟨lD, by rw [eD]⟩)⟩
end
def KTup (K : PySem.W.Frag) (a : Addr) (xs : List EV) : Prop := xs.all oM = true ∧ ∀ H, SqT K H a (xs.map toV)
theorem flats_toV {K : PySem.W.Frag} {m : Nat → Addr} {n : Nat} {H : Hp} : ∀ {xs : List EV}, xs.all oM = true → aO K m n H xs (xs.map toV)
  | [], _ => .nil
  | x :: xs, f => by
    simp only [List.all_cons, Bool.and_eq_true] at f
    refine .cons ?_ (flats_toV f.2)
    cases x <;> first | (rw [aC]; rfl) | (simp [oM] at f; done)
theorem le_gtup {X : Cx} {a : Addr} {xs : List EV} {x : Str} {pos : Pos} (T : KTup X.K a xs) (hg : Gl X x) (hm : X.mg x = some (.ref a)) (hd : (x == ("__debug__" : Str)) = false := by decide) : LE X (.Name x pos) (lC (.ktup xs)) := by
  refine ⟨⟨fun pins s σ H Q I ⟨m, env, h, P, at_, t1, k⟩ => ld_glob I hg hm (s := s) ⟨.ref a, H, I, rfl, k _ _ t1 m H _ .refl at_.hp ?_⟩ hd⟩⟩
  rw [aC]
  exact ⟨a, _, rfl, T.2 H, flats_toV T.1⟩
def relsB : List V → List Value → Bool
  | [], [] => true
  | v :: vs, u :: us => He.relB v u && relsB vs us
  | _, _ => false
theorem relsB_ok : ∀ {vs : List V} {us : List Value}, relsB vs us = true → Vals vs us
  | [], [], _ => .nil
  | v :: vs, u :: us, h => by
    obtain ⟨a, b⟩ := He.ba h
    exact .cons (He.relB_ok a) (relsB_ok b)
  | [], _ :: _, h => by cases h
  | _ :: _, [], h => by cases h
def tupB (K : PySem.W.Frag) (a : Addr) (xs : List EV) : Bool := xs.all oM && (match K.lookup a with
  | some ⟨.type c, _, .seq its _, _⟩ => decide (c = "tuple") && (decide (its.size ≤ sizeLine) && relsB (xs.map toV) its.toList)
  | _ => false)
theorem tupB_ok {K : PySem.W.Frag} {a : Addr} {xs : List EV} (h : tupB K a xs = true) : KTup K a xs := by
  obtain ⟨h1, h2⟩ := He.ba h
  refine ⟨h1, fun H => ?_⟩
  cases q : K.lookup a with
  | none => rw [q] at h2; cases h2
  | some o =>
    obtain ⟨oc, od, dt, osl⟩ := o
    rw [q] at h2
    cases oc with
    | type c =>
      cases dt with
      | seq its n =>
        obtain ⟨h3, h4⟩ := He.ba h2
        obtain ⟨h4, h5⟩ := He.ba h4
        have e : c = "tuple" := of_decide_eq_true h3
        subst e
        exact .inr ⟨_, its, n, q, rfl, rfl, of_decide_eq_true h4, relsB_ok h5⟩
      | _ => cases h2
    | _ => cases dt <;> cases h2
def sclsB (K : PySem.W.Frag) (C : Addr) : Bool := PySem.W.plainGet K C Str.empty && (PySem.W.isClsIn K C && (PySem.W.plainOver K C && He.eqO (PySem.W.findIn K (.ref C) "__setattr__") (some (some (.builtin "object.__setattr__")))))
theorem sclsB_ok {K : PySem.W.Frag} {C : Addr} (h : sclsB K C = true) : SlX.SCls K C := by
  obtain ⟨h1, h⟩ := He.ba h
  obtain ⟨h2, h⟩ := He.ba h
  obtain ⟨h3, h⟩ := He.ba h
  exact ⟨h1, h2, h3, He.eqO_ok h⟩
def slotB (K : PySem.W.Frag) (C : Addr) (f : Str) (i : Nat) : Bool := match PySem.W.findIn K (.ref C) f with
  | some (some (.ref p)) => He.eqO (PySem.W.specialIn K (.ref p) "__get__") (some (some (.builtin "member_descriptor.__get__"))) && (decide (PySem.W.takesIn K (.ref p) = some true) && (decide (PySem.W.typeIn K (.ref p) = some (.type "member_descriptor")) && (decide (PySem.W.slotIn K p C = some i) && decide (i < 1000))))
  | _ => false
theorem slotB_ok {K : PySem.W.Frag} {C : Addr} {f : Str} {i : Nat} (h : slotB K C f i = true) : ∃ p, SlX.Slot1 K C f p i := by
  unfold slotB at h
  split at h
  · rename_i p e
    obtain ⟨h1, h⟩ := He.ba h
    obtain ⟨h2, h⟩ := He.ba h
    obtain ⟨h3, h⟩ := He.ba h
    obtain ⟨h4, h⟩ := He.ba h
    exact ⟨p, e, He.eqO_ok h1, of_decide_eq_true h2, of_decide_eq_true h3, of_decide_eq_true h4, of_decide_eq_true h⟩
  · cases h
def isiOkB (K : PySem.W.Frag) (C : Addr) : Bool := PySem.W.plainGet K C "__class__" && (PySem.W.isClsIn K C && (He.eqO (PySem.W.findIn K (.ref C) "__class__") (some (some (.builtin "object.__class__"))) && (He.eqO (PySem.W.specialIn K (.builtin "object.__class__") "__get__") (some (some (.builtin "getset_descriptor.__get__"))) && (decide (PySem.W.takesIn K (.builtin "object.__class__") = some true) && (decide (PySem.W.mroIn K C (.type "object") = some true) && ["int", "bool", "str", "tuple", "dict", "list"].all fun T => decide (PySem.W.kitOne K (.ref C) (.type T) = some false))))))
theorem isiOkB_ok {K : PySem.W.Frag} {C : Addr} (h : isiOkB K C = true) : IsiOk K C := by
  obtain ⟨h1, h⟩ := He.ba h
  obtain ⟨h2, h⟩ := He.ba h
  obtain ⟨h3, h⟩ := He.ba h
  obtain ⟨h4, h⟩ := He.ba h
  obtain ⟨h5, h⟩ := He.ba h
  obtain ⟨h6, h⟩ := He.ba h
  exact ⟨h1, h2, He.eqO_ok h3, He.eqO_ok h4, of_decide_eq_true h5, of_decide_eq_true h6, fun T hT => of_decide_eq_true (List.all_eq_true.mp h T hT)⟩
theorem slot1 {K : PySem.W.Frag} {C : Addr} {f : Str} {i : Nat} (c : SlX.SCls K C) (s : ∃ p, SlX.Slot1 K C f p i) : SlotOf K f [(C, i)] := by
  intro q hq
  rw [List.mem_singleton.mp hq]
  exact ⟨c, s⟩
def lPairs : List (LT × LT) → En → EH → (List (EV × EV) → EH → Prop) → Prop
  | [], _, h, P => P [] h
  | (tk, tv) :: r, env, h, P => tk env h fun x h1 => tv env h1 fun y h2 => lPairs r env h2 fun ps h3 => P ((x, y) :: ps) h3
def RelPs (K : PySem.W.Frag) (m : Nat → Addr) (n : Nat) (H : Hp) : List (EV × EV) → List (V × V) → Prop
  | [], l => l = []
  | (x, y) :: r, l => ∃ a b l', l = (a, b) :: l' ∧ aC K m n H x a ∧ aC K m n H y b ∧ RelPs K m n H r l'
def liftP (K : PySem.W.Frag) (trs : List (LT × LT)) : List (TE × TE) := trs.map fun q => (up K q.1, up K q.2)
theorem pairs_sim {K : PySem.W.Frag} : ∀ (trs : List (LT × LT)) (σ : L2.St) (H : Hp) (m : Nat → Addr) (env : En) (h : EH) (P : List (EV × EV) → EH → Prop) (Q : List (V × V) → Hp → Prop), At K env h m σ H → lPairs trs env h P →
    (∀ ps h', P ps h' → ∀ (m' : Nat → Addr) (H' : Hp) vs, Ex K m h.length H m' h'.length H' → cC K m' h' H' → RelPs K m' h'.length H' ps vs → Q vs H') → tPairs (liftP K trs) σ H Q
  | [], σ, H, m, env, h, P, Q, at_, p, k => k [] h p m H [] .refl at_.hp rfl
  | (tk, tv) :: r, σ, H, m, env, h, P, Q, at_, p, k => by
    refine ⟨m, env, h, _, at_, p, fun x h1 p1 m1 H1 u E1 R1 r1 => ⟨m1, env, h1, _, at_.ex E1 R1, p1, fun y h2 p2 m2 H2 w E2 R2 r2 => ?_⟩⟩
    refine pairs_sim r σ H2 m2 env h2 _ _ ((at_.ex E1 R1).ex E2 R2) p2 fun ps h3 p3 m3 H3 vs E3 R3 r3 => ?_
    exact k _ _ p3 m3 H3 _ ((E1.trans E2).trans E3) R3 ⟨u, w, vs, rfl, aC.ex (E2.trans E3) _ _ r1, aC.ex E3 _ _ r2, r3⟩
def dAll (ps : List (EV × EV)) : List (EV × EV) := ps.foldl (fun acc p => dPut acc p.1 p.2) []
theorem relPs_keys {K : PySem.W.Frag} {m : Nat → Addr} {n : Nat} {H : Hp} : ∀ {ps : List (EV × EV)} {vs : List (V × V)}, (∀ p ∈ ps, isKey p.1) → RelPs K m n H ps vs → ∃ kvs : List (L2.Key × V), vs = kvs.map (fun kv => (kV kv.1, kv.2)) ∧ bH K m n H ps kvs
  | [], vs, _, r => by rw [RelPs] at r; subst r; exact ⟨[], rfl, rfl⟩
  | (x, y) :: ps, vs, hk, r => by
    rw [RelPs] at r
    obtain ⟨a, b, l, rfl, ra, rb, r⟩ := r
    obtain ⟨k, rfl⟩ := key_of (hk (x, y) (by simp)) ra
    obtain ⟨kvs, rfl, r2⟩ := relPs_keys (fun p hp => hk p (List.mem_cons_of_mem _ hp)) r
    exact ⟨(k, b) :: kvs, rfl, by rw [bH]; exact ⟨k, b, kvs, rfl, ra, rb, r2⟩⟩
theorem relKV_merge {K : PySem.W.Frag} {m : Nat → Addr} {n : Nat} {H : Hp} : ∀ {ps : List (EV × EV)} {kvs : List (L2.Key × V)} {acc : List (EV × EV)} {l : List (L2.Key × V)}, (∀ p ∈ ps, isKey p.1) → bH K m n H ps kvs → bH K m n H acc l →
    bH K m n H (ps.foldl (fun acc p => dPut acc p.1 p.2) acc) (mergeK l kvs)
  | [], kvs, acc, l, _, r, ra => by rw [bH] at r; subst r; exact ra
  | (x, y) :: ps, kvs, acc, l, hk, r, ra => by
    rw [bH] at r
    obtain ⟨k, v, l', rfl, r1, r2, r⟩ := r
    rw [List.foldl_cons]
    show bH K m n H _ (mergeK (putK l k v) l')
    exact relKV_merge (fun p hp => hk p (List.mem_cons_of_mem _ hp)) r (bH.put r1 (hk (x, y) (by simp)) r2 ra)
def lDisp (trs : List (LT × LT)) : LT := fun env h P => lPairs trs env (h ++ [.dic []]) fun ps h2 => h2[h.length]? = some (.dic []) ∧ (∀ p ∈ ps, isKey p.1) ∧ ps.length ≤ 15 ∧ P (.ref h.length) (h2.set h.length (.dic (dAll ps)))
structure LPs (X : Cx) (pos : Pos) (keys : List (Option Expr)) (values : List Expr) (trs : List (LT × LT)) : Prop where
  pps : PPs X pos keys values (liftP X.K trs)
section
variable {X : Cx} {pos : Pos}
theorem lps_nil : LPs X pos [] [] [] := ⟨pps_nil⟩
theorem lps_cons {k v : Expr} {ks : List (Option Expr)} {vs : List Expr} {tk tv : LT} {trs : List (LT × LT)} (hk : LE X k tk) (hv : LE X v tv) (hr : LPs X pos ks vs trs) : LPs X pos (some k :: ks) (v :: vs) ((tk, tv) :: trs) := ⟨pps_cons hk.pe hv.pe hr.pps⟩
theorem le_disp {keys : List (Option Expr)} {values : List Expr} {trs : List (LT × LT)} (h : LPs X pos keys values trs) (hall : keys.all (·.isSome) = true := by rfl) (hl : keys.length = values.length := by rfl) (h0 : keys ≠ [] := by exact List.cons_ne_nil _ _) (h15 : keys.length ≤ 15 := by decide) :
    LE X (.Dict keys values pos) (lDisp trs) := by
  refine ⟨PE.imp (pe_disp h.pps hall hl h0 h15) fun σ H Q ⟨m, env, h, P, at_, t1, k⟩ p hp => ?_⟩
  have E : Ex X.K m h.length H (oU m h.length p) (h ++ [EO.dic []]).length (upd H p (.dK [])) := Ex.new hp
  have R : cC X.K (oU m h.length p) (h ++ [EO.dic []]) (upd H p (.dK [])) := at_.hp.new hp ⟨[], upd_same, rfl⟩
  refine pairs_sim trs σ _ _ env _ _ _ (at_.ex E R) t1 fun ps h2 p2 m2 H2 vs E2 R2 r2 => ?_
  obtain ⟨e2, hk, h15, p2⟩ := p2
  have em : m2 h.length = p := (E2.eq _ (by simp)).trans jx
  obtain ⟨l, a, rl⟩ := R2.obj _ _ e2
  rw [em] at a
  rw [bH] at rl
  subst rl
  obtain ⟨kvs, rfl, rk⟩ := relPs_keys hk r2
  have ll := bH.length rk
  refine ⟨a, kvs, rfl, by omega, ?_⟩
  have E3 := Ex.write (o := .dK (mergeK [] kvs)) (e' := EO.dic (dAll ps)) R2 e2
  have R3 := R2.write (o := .dK (mergeK [] kvs)) (e' := EO.dic (dAll ps)) e2 ⟨_, upd_same, relKV_merge hk (rk.ex E3) rfl⟩
  rw [em] at E3 R3
  have lt := E2.le
  simp only [List.length_append, List.length_singleton] at lt
  exact k _ _ p2 m2 _ _ ((E.trans E2).trans E3) R3 (by rw [aC]; exact ⟨by simp; omega, by rw [em]⟩)
end
section
variable {X : Cx} {a b : Expr} {ta tb : LT} {p p2 q pos : Pos}
end
theorem u1 {k : Nat} {A : Around} (r : Room k A) : A.units + 1 < cLine := by have := r.un; omega
theorem u65 {k : Nat} {A : Around} (r : Room k A) : A.units + 65 < cLine := by have := r.un; omega
theorem sa_l {h : EH} {b : Nat} {xs : List EV} {i : Int} {v : EV} {k : Nat} {p : EH → Prop} (e : h[b]? = some (.lst xs)) (a : ixN xs.length i = some k) (q : p (h.set b (.lst (xs.set k v)))) : setA (.ref b) (.int i) v h p := by
  unfold setA; simp only [e]; exact set_l e a q
def noTup : Sc → Prop
  | .tup _ => False
  | _ => True
theorem piN {X : Cx} {e : Expr} {ta : TA} {p pos tpos : Pos} {elts : List Expr} {kk : Nat} (hg : Gl X "enumerate") (hm : X.mg "enumerate" = none) (ha : PA X [e] ta) (hs : starEach [e] X.env = [(false, eval e X.env)] := by rfl) :
    PI X (.Tuple elts kk tpos) (.Call (.Name "enumerate" p) [e] [] pos) (fun σ H R => ta σ H fun vs H1 => ∃ (a : Sc) (xs : List V), noTup a ∧ vs = [a.val] ∧ a.is X.K H1 xs ∧ R (ItN X.K a 0) H1) := by
  refine ⟨fun pins s σ H R I h => ?_⟩
  refine Call_ (ld_blt I hg hm PyProof.Rows.boot_enumerate (PyProof.Rows.callWith_type1 (thn (ha.run pos pins s σ H _ I h) fun us s1 ⟨vs, H1, I1, r1, q1⟩ => ?_) hs rfl))
  obtain ⟨a, xs, nt, ex, hq, q⟩ := q1
  subst ex
  cases r1 with
  | cons r rr =>
    cases rr
    have fin : ∀ h' : Heap, IsEnum h' (s1.heap.objs.size + 1) s1.heap.objs.size 0 .none → a.st s1.heap.objs.size 0 h' → (∀ b o, s1.heap.get? b = some o → h'.get? b = some o) → (∀ b ∈ a.cell, b < s1.heap.objs.size) →
        PIE X pins σ (.Tuple elts kk tpos) R (.ref (s1.heap.objs.size + 1)) { s1 with heap := h' } := by
      intro h' he st hk hc
      have I2 : Inv X pins σ H1 { s1 with heap := h' } := I1.kept (t' := s1.toks) hk
      have n1 : s1.heap.objs.size ∉ a.cell := fun z => Nat.lt_irrefl _ (hc _ z)
      have n2 : s1.heap.objs.size + 1 ∉ s1.heap.objs.size :: a.cell := fun z => by
        rcases List.mem_cons.mp z with z | z
        · exact absurd z (Nat.succ_ne_self _)
        · exact absurd (hc _ z) (Nat.not_lt.mpr (Nat.le_succ _))
      refine ⟨s1.heap.objs.size + 1, [s1.heap.objs.size + 1, s1.heap.objs.size], _, _, H1, rfl, I2, turnN (k := 0) (Nat.succ_ne_self _) n2 n1, ⟨⟨.none, he⟩, st⟩, fun b hb => ?_, q⟩
      have e' : b = s1.heap.objs.size + 1 ∨ b = s1.heap.objs.size := by simpa using hb
      have hle : s1.heap.objs.size ≤ b := by
        rcases e' with z | z
        · rw [z]; exact Nat.le_add_right _ _
        · rw [z]; exact Nat.le_refl _
      exact I1.fpOk hle (I1.hok.fresh hle)
    match a, nt, hq, r, fin with
    | .lst l, _, hq, r, fin =>
      obtain ⟨its, rv, p', hz⟩ := I1.list hq
      cases r
      refine call_enumerate_list p'.isList fun h' he hit hsz hk => wpAny_pyIter_enum he (fin h' he hit hk fun b hb => ?_)
      have e : b = l := by simpa [Sc.cell] using hb
      rw [e]; exact p'.lt
    | .txt x, _, hq, r, fin =>
      obtain ⟨t, rfl⟩ := r
      exact call_enumerate_str fun h' he hit hsz hk => wpAny_pyIter_enum he (fin h' he ⟨t, hit⟩ hk fun b hb => by simp [Sc.cell] at hb)
def numE (xs : List EV) (k : Int) : List EV := (List.range xs.length).zipWith (fun (i : Nat) x => EV.tup [.int (k + i), x]) xs
def notTupE : EV → Prop
  | .tup _ => False
  | .ktup _ => False
  | _ => True
theorem src_simN {K : PySem.W.Frag} {m : Nat → Addr} {h : EH} {H : Hp} {v : EV} {x : V} {P : (EH → Prop) → List EV → Prop} (R : cC K m h H) (r : aC K m h.length H v x) (q : srcE v h P) (nt : notTupE v) :
    ∃ (sc : Sc) (g : EH → Prop) (xs : List EV), noTup sc ∧ P g xs ∧ x = sc.val ∧ g h ∧
      ∀ m' h' H', Ex K m h.length H m' h'.length H' → cC K m' h' H' → g h' → ∃ us, sc.is K H' us ∧ aO K m' h'.length H' xs us := by
  unfold srcE at q
  split at q
  · rename_i r0
    rw [aC] at r
    obtain ⟨hr, rfl⟩ := r
    split at q
    · rename_i xs e
      refine ⟨.lst (m r0), _, xs, trivial, q, rfl, e, fun m' h' H' E' R' gh => ?_⟩
      obtain ⟨us, a', r'⟩ := R'.obj _ _ gh
      exact ⟨us, by rw [← E'.eq _ hr]; exact SqL.of a', r'⟩
    · rename_i xs e
      refine ⟨.lst (m r0), _, xs, trivial, q, rfl, e, fun m' h' H' E' R' gh => ?_⟩
      obtain ⟨us, a', r'⟩ := R'.obj _ _ gh
      exact ⟨us, by rw [← E'.eq _ hr]; exact a'.sql, r'⟩
    · exact q.elim
  · exact absurd nt (by simp [notTupE])
  · exact absurd nt (by simp [notTupE])
  · rename_i cs
    rw [aC] at r
    subst r
    refine ⟨.txt (S cs), _, _, trivial, q, rfl, trivial, fun m' h' H' E' R' gh => ⟨_, rfl, ?_⟩⟩
    show aO K m' h'.length H' (cs.map fun c => EV.str [c]) (cs.toArray.toList.map fun c => V.str ⟨#[c]⟩)
    rw [List.toList_toArray]
    clear q nt
    induction cs with
    | nil => exact .nil
    | cons c cs ih => exact .cons (by rw [aC]) ih
  · exact q.elim
def lEnum (ta : LA) : LI := fun env h P => ta env h fun vs h1 => match vs with
  | [x] => notTupE x ∧ srcE x h1 fun g xs => P g (numE xs 0) h1
  | _ => False
theorem numE_at {xs : List EV} {k : Int} {i : Nat} {z : EV} (e : (numE xs k)[i]? = some z) : ∃ x, xs[i]? = some x ∧ z = .tup [.int (k + (i : Nat)), x] := by
  obtain ⟨a, b, ha, hb, rfl⟩ := zw_at e
  obtain ⟨hl, e1⟩ := List.getElem?_eq_some_iff.mp ha
  rw [List.getElem_range] at e1
  subst e1
  exact ⟨b, hb, rfl⟩
theorem numE_len (xs : List EV) (k : Int) : (numE xs k).length = xs.length := by unfold numE; simp
theorem lit_enum {X : Cx} {e : Expr} {ta : LA} {p pos tpos : Pos} {elts : List Expr} {kk : Nat} (hg : Gl X "enumerate") (hm : X.mg "enumerate" = none) (ha : LAs X [e] ta) (hs : starEach [e] X.env = [(false, eval e X.env)] := by rfl) :
    LIt X (.Tuple elts kk tpos) (.Call (.Name "enumerate" p) [e] [] pos) (lEnum ta) := by
  refine ⟨PI.imp (piN hg hm ha.pa hs) fun σ H R ⟨m, env, h, P, at_, t1, k⟩ => ⟨m, env, h, _, at_, t1, fun vs h1 p1 m1 H1 xs E1 R1 r1 => ?_⟩⟩
  split at p1
  · rename_i x
    obtain ⟨v, rfl, r2⟩ := r1.one_inv
    obtain ⟨nt, p1⟩ := p1
    obtain ⟨sc, g, ls, nts, q, rfl, gh, sim⟩ := src_simN R1 r2 p1 nt
    obtain ⟨us, u1, _⟩ := sim m1 h1 H1 .refl R1 gh
    refine ⟨sc, us, nts, rfl, u1, k _ _ h1 q m1 H1 _ E1 R1 fun i h' m' H' E' R' gA => ?_⟩
    obtain ⟨us, u1, ru⟩ := sim m' h' H' E' R' gA
    refine ⟨fun z hz => ?_, fun hi => ⟨us, u1, by rw [numE_len] at hi; rw [← ru.length]; exact hi.symm⟩⟩
    obtain ⟨y, hy, rfl⟩ := numE_at hz
    obtain ⟨w, hw, rw'⟩ := ru.at hy
    refine ⟨⟨us, w, u1, hw⟩, fun v H2 ⟨T, w', ev, hT, eH, uw⟩ => ?_⟩
    have hw' := uw us u1
    rw [hw] at hw'
    cases hw'
    subst ev eH
    exact rel_pair R' hT (by rw [aC]) rw'
  · exact p1.elim
end Y
namespace Y
open PySem PySem.Spec PyProof.Rows L2 HT
section
variable {prog : Program} {w : World} {A : Around} {E : Value → Shared → Prop} {s : Shared}
end
end Y
namespace Y
open PySem PySem.Spec PyProof.Rows L2
end Y
namespace Y
open PySem PySem.Spec PyProof.Rows L2 PySem.W
section
variable {prog : Program} {w : World} {A : Around} {E : Value → Shared → Prop} {s : Shared} {x : Str} {t : Tok}
end
end Y
namespace Y
open PySem PySem.Spec PyProof.Rows L2
section
variable {X : Cx} {a b : Expr} {ta tb : LT} {pos : Pos} {rest : List Expr}
end
section
variable {X : Cx}
end
section
variable {X : Cx}
end
section
variable {X : Cx} {a b : Expr} {ta tb : LT} {p p2 q pos : Pos}
end
theorem fnG_none {P : Program} {w : World} {K : PySem.W.Frag} {mg : Str → Option Value} {base : Heap} {k : Nat} {f : Addr} {fd : FuncData} {ps : List Str} : FnG P w K mg base k f fd ps (fun _ _ _ => False) :=
  ⟨fun _ _ _ z => z.elim, fun A outer s H args us vs Q hr hG e0 hb r q => by
    obtain ⟨_, _, _, _, _, _, z, _⟩ := q
    exact z.elim⟩
end Y
namespace Y
open PySem PySem.Spec PyProof.Rows L2
mutual
def flatD : PyData → Bool
  | .none => true
  | .bool _ => true
  | .int _ => true
  | .str _ => true
  | .tuple xs => flatDs xs
  | .list _ => false
  | .dict _ => false
def flatDs : List PyData → Bool
  | [] => true
  | x :: xs => flatD x && flatDs xs
end
def kD : L2.Key → PyData
  | .inl i => .int i
  | .inr x => .str x
def dicD (ps : List (L2.Key × PyData)) : PyData := .dict (ps.map fun p => (kD p.1, p.2))
inductive DKV (h : EH) : List (EV × EV) → List (L2.Key × PyData) → Prop
  | nil : DKV h [] []
  | int {i : Int} {v : EV} {d : PyData} {r : List (EV × EV)} {ps : List (L2.Key × PyData)} : Dat h 50 v d → flatD d = true → DKV h r ps → DKV h ((.int i, v) :: r) ((.inl i, d) :: ps)
  | str {s : List Nat} {v : EV} {d : PyData} {r : List (EV × EV)} {ps : List (L2.Key × PyData)} : Dat h 50 v d → flatD d = true → DKV h r ps → DKV h ((.str s, v) :: r) ((.inr (S s), d) :: ps)
inductive DatE (h : EH) : EV → PyData → Prop
  | pl {v : EV} {d : PyData} : Dat h 55 v d → DatE h v d
  | dic {r : Nat} {kvs : List (EV × EV)} {ps : List (L2.Key × PyData)} : h[r]? = some (.dic kvs) → DKV h kvs ps → DatE h (.ref r) (dicD ps)
inductive DatEs (h : EH) : List EV → List PyData → Prop
  | nil : DatEs h [] []
  | cons {v : EV} {d : PyData} {vs : List EV} {ds : List PyData} : DatE h v d → DatEs h vs ds → DatEs h (v :: vs) (d :: ds)
inductive DatX (h : EH) : EV → PyData → Prop
  | el {v : EV} {d : PyData} : DatE h v d → DatX h v d
  | lst {r : Nat} {xs : List EV} {ds : List PyData} : h[r]? = some (.lst xs) → DatEs h xs ds → DatX h (.ref r) (.list ds)
def dEq (p q : List (L2.Key × PyData)) : Bool := p.length == q.length && p.all fun x => match (q.find? fun y => y.1 = x.1).map (·.2) with
  | some u => PyData.eqv x.2 u
  | none => false
abbrev DRow (K : PySem.W.Frag) (H : Hp) : List (L2.Key × V) → List (L2.Key × PyData) → Prop := Paired fun p q => p.1 = q.1 ∧ Dp K H p.2 q.2 ∧ flatD q.2 = true ∧ q.2.depth ≤ 50 ∧ q.2.plain = true
inductive DpE (K : PySem.W.Frag) (H : Hp) : V → PyData → Prop
  | pl {v : V} {d : PyData} : Dp K H v d → d.depth ≤ 55 → d.plain = true → DpE K H v d
  | dic {a : Addr} {l : List (L2.Key × V)} {ps : List (L2.Key × PyData)} : H a = some (.dK l) → DRow K H l ps → DpE K H (.ref a) (dicD ps)
inductive DpX (K : PySem.W.Frag) (H : Hp) : V → PyData → Prop
  | el {v : V} {d : PyData} : DpE K H v d → DpX K H v d
  | lst {a : Addr} {xs : List V} {ds : List PyData} : SqL K H a xs → Paired (DpE K H) xs ds → DpX K H (.ref a) (.list ds)
section
variable {K : PySem.W.Frag} {m : Nat → Addr} {H : Hp} {h : EH}
theorem kV_int {k : L2.Key} {i : Int} (e : kV k = .int i) : k = .inl i := by
  cases k with
  | inl j => simp only [kV] at e; cases e; rfl
  | inr x => simp [kV] at e
theorem kV_str {k : L2.Key} {x : Str} (e : kV k = .str x) : k = .inr x := by
  cases k with
  | inl j => simp [kV] at e
  | inr y => simp only [kV] at e; cases e; rfl
theorem DKV.row (R : cC K m h H) : ∀ {kvs : List (EV × EV)} {ps : List (L2.Key × PyData)} {l : List (L2.Key × V)}, DKV h kvs ps → bH K m h.length H kvs l → DRow K H l ps
  | _, _, l, .nil, r => by
    have r' : l = [] := r
    subst r'; exact .nil
  | _, _, l, .int dv fd dr, r => by
    obtain ⟨k', v, l', rfl, rk, rv, rr⟩ := r
    rw [aC] at rk
    have e := kV_int rk
    subst e
    exact .cons ⟨rfl, Dat.dp R _ _ _ _ dv rv, fd, (Dat.dep _ _ _ dv).1, (Dat.dep _ _ _ dv).2⟩ (DKV.row R dr rr)
  | _, _, l, .str dv fd dr, r => by
    obtain ⟨k', v, l', rfl, rk, rv, rr⟩ := r
    rw [aC] at rk
    have e := kV_str rk
    subst e
    exact .cons ⟨rfl, Dat.dp R _ _ _ _ dv rv, fd, (Dat.dep _ _ _ dv).1, (Dat.dep _ _ _ dv).2⟩ (DKV.row R dr rr)
theorem DatE.dp (R : cC K m h H) {v : EV} {x : V} {d : PyData} (a : DatE h v d) (r : aC K m h.length H v x) : DpE K H x d := by
  cases a with
  | pl a => exact .pl (Dat.dp R _ _ _ _ a r) (Dat.dep _ _ _ a).1 (Dat.dep _ _ _ a).2
  | dic e b =>
    rw [aC] at r
    obtain ⟨_, rfl⟩ := r
    obtain ⟨l, hl, rl⟩ := R.obj _ _ e
    exact .dic hl (DKV.row R b rl)
theorem DatEs.dp (R : cC K m h H) : ∀ {vs : List EV} {xs : List V} {ds : List PyData}, DatEs h vs ds → aO K m h.length H vs xs → Paired (DpE K H) xs ds
  | _, _, _, .nil, r => by rw [aO] at r; subst r; exact .nil
  | _, _, _, .cons a b, r => by
    rw [aO] at r
    obtain ⟨v, l, rfl, r1, r2⟩ := r
    exact .cons (DatE.dp R a r1) (DatEs.dp R b r2)
theorem DatX.dp (R : cC K m h H) {v : EV} {x : V} {d : PyData} (a : DatX h v d) (r : aC K m h.length H v x) : DpX K H x d := by
  cases a with
  | el a => exact .el (DatE.dp R a r)
  | lst e b =>
    rw [aC] at r
    obtain ⟨_, rfl⟩ := r
    obtain ⟨vs, hv, t⟩ := R.obj _ _ e
    exact .lst (SqL.of hv) (DatEs.dp R b t)
end
mutual
theorem flat_as {h : Heap} : ∀ (d : PyData) (u : Value) (as : List Addr), flatD d = true → Reads h u d as → as = []
  | .none, _, _, _, r => by cases r; rfl
  | .bool _, _, _, _, r => by cases r; rfl
  | .int _, _, _, _, r => by cases r; rfl
  | .str _, _, _, _, r => by cases r; rfl
  | .list _, _, _, f, _ => by simp [flatD] at f
  | .dict _, _, _, f, _ => by simp [flatD] at f
  | .tuple xs, _, _, f, r => by
    cases r with
    | tuple h1 h2 h3 h4 => exact flats_as xs _ _ (by simpa [flatD] using f) h4
theorem flats_as {h : Heap} : ∀ (ds : List PyData) (us : List Value) (as : List Addr), flatDs ds = true → ReadsAll h us ds as → as = []
  | [], _, _, _, r => by cases r; rfl
  | d :: ds, _, _, f, r => by
    have f' : flatD d = true ∧ flatDs ds = true := by simpa [flatDs] using f
    cases r with
    | cons r1 r2 => rw [flat_as d _ _ f'.1 r1, flats_as ds _ _ f'.2 r2]; rfl
end
section
variable {X : Cx} {pins : List (Addr × Obj)} {σ : L2.St} {H : Hp} {s : Shared}
theorem row_reads (I : Inv X pins σ H s) : ∀ {l : List (L2.Key × V)} {ps : List (L2.Key × PyData)} {vs : List (L2.Key × Value)} {es : List DictEntry}, DRow X.K H l ps → KV l vs → Pairs (mixKind X.prog X.w) es vs →
    ReadsAll s.heap (es.map (·.key)) (ps.map fun p => kD p.1) [] ∧ ReadsAll s.heap (es.map (·.val)) (ps.map (·.2)) []
  | _, _, _, _, .nil, kv, pr => by
    cases kv
    cases pr
    exact ⟨.nil, .nil⟩
  | _, _, _, _, .cons a b, kv, pr => by
    cases kv with
    | cons k1 k2 =>
      cases pr with
      | cons q1 q2 p2 =>
        obtain ⟨i1, i2⟩ := row_reads I b k2 p2
        obtain ⟨e1, d1, f1, _⟩ := a
        obtain ⟨e2, r2⟩ := k1
        obtain ⟨as, rd⟩ := Dp.reads I _ _ _ d1 r2
        have has := flat_as _ _ _ f1 rd
        subst has
        refine ⟨?_, ?_⟩
        · refine ReadsAll.cons (as := []) (bs := []) ?_ i1
          rcases keyIs_shape (k := _) (v := _) q1 with ⟨i, t, hk, hv⟩ | ⟨x, t, hk, hv⟩
          · dsimp only; rw [hv, ← e1, e2, hk]; exact .int i t
          · dsimp only; rw [hv, ← e1, e2, hk]; exact .str x t
        · refine ReadsAll.cons (as := []) (bs := []) ?_ i2
          dsimp only; rw [q2]; exact rd
theorem DpE.reads (I : Inv X pins σ H s) {v : V} {u : Value} {d : PyData} (a : DpE X.K H v d) (r : RelV v u) : ∃ as, Reads s.heap u d as ∧ (d.hasDict = true → sysModules ∉ as) := by
  cases a with
  | pl a _ pd =>
    obtain ⟨as, rd⟩ := Dp.reads I _ _ _ a r
    exact ⟨as, rd, fun z => by rw [rQ _ pd] at z; cases z⟩
  | @dic a0 l0 ps0 e b =>
    cases (show u = Value.ref _ from r)
    obtain ⟨_, sm, vs, kv, o, es, ep, h1, h2, h3, _, hp, _⟩ := (show ObjOk X.prog X.w H s.heap _ (.dK _) from I.hok _ _ e)
    obtain ⟨i1, i2⟩ := row_reads I b kv hp
    refine ⟨_, .dict h1 h2.1 h3 (by rw [List.map_map]; exact i1) (by rw [List.map_map]; exact i2), fun _ z => ?_⟩
    have z' : sysModules = a0 := by simpa using z
    rw [← z'] at sm
    simp at sm
theorem row_depth {K : PySem.W.Frag} : ∀ {l : List (L2.Key × V)} {ps : List (L2.Key × PyData)}, DRow K H l ps → PyData.depthKv (ps.map fun p => (kD p.1, p.2)) ≤ 50
  | _, _, .nil => by simp [PyData.depthKv]
  | _, _, .cons (b := qq) a b => by
    have q := row_depth b
    obtain ⟨_, _, _, d1, _⟩ := a
    simp only [List.map_cons, PyData.depthKv]
    have : (kD qq.1).depth ≤ 1 := by cases qq.1 <;> simp [kD, PyData.depth]
    omega
theorem DpE.depth {K : PySem.W.Frag} {v : V} {d : PyData} (a : DpE K H v d) : d.depth ≤ 55 := by
  cases a with
  | pl _ dd _ => exact dd
  | dic _ b =>
    have q := row_depth b
    unfold dicD
    simp only [PyData.depth]
    omega
theorem dpEs_depth {K : PySem.W.Frag} : ∀ {xs : List V} {ds : List PyData}, Paired (DpE K H) xs ds → PyData.depthAll ds ≤ 55
  | _, _, .nil => by simp [PyData.depthAll]
  | _, _, .cons a b => by
    have q := dpEs_depth b
    have := a.depth
    simp only [PyData.depthAll]
    omega
theorem reprAll (I : Inv X pins σ H s) : ∀ {xs : List V} {ds : List PyData} {us : List Value}, Paired (DpE X.K H) xs ds → Vals xs us → PyData.showableAll ds = true → (∀ t ∈ PyData.shownAll ds, t.length ≤ sizeLine) →
    ∃ as bs, ReadsAll s.heap us ds as ∧ ReadAtMost s.heap (PyData.depthAll ds) bs ∧ ReprAllK X.prog X.w bs s.heap (PyData.depthAll ds) us (PyData.shownAll ds)
  | _, _, _, .nil, r, _, _ => by
    cases r
    exact ⟨[], [], .nil, (fun _ h => nomatch h), by simp only [PyData.shownAll]; exact .nil⟩
  | _, _, _, .cons (b := d) (l₂ := ds) a b, r, hs, hz => by
    cases r with
    | cons r1 r2 =>
      have hs' : d.showable = true ∧ PyData.showableAll ds = true := by simpa [PyData.showableAll] using hs
      obtain ⟨as, rd, hsm⟩ := a.reads I r1
      obtain ⟨b1, hb1, k1⟩ := ReprK.of_reads (prog := X.prog) (w := X.w) rd hs'.1 hsm (hz _ (by simp only [PyData.shownAll]; exact List.mem_cons_self ..))
      obtain ⟨as2, b2, rd2, hb2, k2⟩ := reprAll I b r2 hs'.2 (fun t ht => hz t (by simp only [PyData.shownAll]; exact List.mem_cons_of_mem _ ht))
      refine ⟨_, b1 ++ b2, .cons rd rd2, ?_, ?_⟩
      · intro z hm
        simp only [PyData.depthAll]
        rcases List.mem_append.mp hm with hm | hm
        · obtain ⟨d', as', r', hd'⟩ := hb1 z hm
          exact ⟨d', as', r', Nat.le_trans hd' (Nat.le_max_left _ _)⟩
        · obtain ⟨d', as', r', hd'⟩ := hb2 z hm
          exact ⟨d', as', r', Nat.le_trans hd' (Nat.le_max_right _ _)⟩
      · simp only [PyData.depthAll, PyData.shownAll]
        exact .cons ((k1.more fun z hb => List.mem_append_left _ hb).level_le (Nat.le_max_left _ _)) (k2.more_le (fun z hb => List.mem_append_right _ hb) (Nat.le_max_right _ _))
end
def rReprX (K : PySem.W.Frag) : List V → Hp → VK → Prop := fun xs H Q => ∃ x d, xs = [x] ∧ DpX K H x d ∧ d.showable = true ∧ d.shown.length ≤ sizeLine ∧ Q (.str d.shown) H
def reprX : LC := fun vs h P => match vs with
  | [v] => ∃ d, DatX h v d ∧ d.showable = true ∧ d.shown.length ≤ sizeLine ∧ P (.str d.shown.cps.toList) h
  | _ => False
section
variable {X : Cx}
theorem call_reprX (hG : X.A.guards = some []) (hu : X.A.units + 64 < cLine) : CallR X (.builtin "repr") (rReprX X.K) := by
  intro pins s σ H xs us Q I r q
  obtain ⟨x, d, rfl, hd, sd, zd, q⟩ := q
  obtain ⟨u, rfl, ru⟩ := vals1 r
  cases hd with
  | el a =>
    cases a with
    | pl a dd pd => exact call_reprD hG hu pins s σ H [x] [u] Q I r ⟨x, d, rfl, a, by omega, pd, sd, zd, q⟩
    | dic e b =>
      cases (show u = Value.ref _ from ru)
      obtain ⟨as, rd, hsm⟩ := (DpE.dic e b).reads I rfl
      have dd := (DpE.dic e b).depth
      exact PySem.repr_of_reads' rd sd hsm hG (by omega) (fun _ _ e => e) (fun h' u tk kk => ⟨.str _, H, I.kept kk, ⟨_, rfl⟩, q⟩) zd
  | lst hs b =>
    cases (show u = Value.ref _ from ru)
    rename_i a ys ds
    obtain ⟨its, rv, ⟨o, n, ho, hc, hdt, hda⟩, hz⟩ := I.list hs
    have dd := dpEs_depth b
    have zd' : (listText (PyData.shownAll ds)).length ≤ sizeLine := by simpa only [PyData.shown] using zd
    obtain ⟨as, bs, rd, hb, hk⟩ := reprAll I b rv (by simpa [PyData.showable] using sd) (fun t ht => Nat.le_trans (listText_mem_le ht) zd')
    have rda : Reads s.heap (.ref a) (.list ds) (a :: as) := .list ho hc hda (by simpa using rd)
    have hna : a ∉ bs := not_mem_of_deeper rda (by simp only [PyData.depth]; omega) hb
    simp only [PyData.shown] at q
    have fin : ∀ h' u tk, (∀ b o, s.heap.get? b = some o → h'.get? b = some o) → ∃ v H', Inv X pins σ H' { s with heap := h', toks := tk } ∧ RelV v (.str (listText (PyData.shownAll ds)) u) ∧ Q v H' := fun h' u tk kk => ⟨.str _, H, I.kept kk, ⟨_, rfl⟩, q⟩
    refine call_repr_slot (T := "list") (idr := "list.__repr__") (by omega) ⟨o, ho, hc⟩ F.slot_list_repr.toG ?_
    cases its with
    | nil =>
      cases rd
      simp only [PyData.shownAll, listText_nil] at fin
      exact call_list_repr_empty ⟨o, ho, hc⟩ ho hda ⟨_, _, rfl, fin s.heap _ _ fun _ _ e => e⟩
    | cons y l =>
      exact call_list_reprK ho hc hda hna (by simpa using hk.length_eq) (fun i y e => hk.item i y (by simpa using e)) hG (fun b _ => Clear.nil b) (by show X.A.units + 1 + (_ + 1) < cLine; omega) (fun _ _ e => e)
        (fun h' u tk kk => ⟨_, _, rfl, fin h' u tk kk⟩) zd'
theorem lc_reprX (hG : X.A.guards = some []) (hu : X.A.units + 64 < cLine) : nH X (.builtin "repr") reprX := by
  refine ⟨_, call_reprX hG hu, ?_⟩
  intro m h H vs xs P Q R r0 q k
  unfold reprX at q
  split at q
  · obtain ⟨v, rfl, r⟩ := r0.one_inv
    obtain ⟨d, dd, sd, zd, p⟩ := q
    exact ⟨v, d, rfl, dd.dp R r, sd, zd, k.same R p (by rw [aC])⟩
  · exact q.elim
end
section
variable {X : Cx} {pins : List (Addr × Obj)} {σ : L2.St} {H : Hp} {s : Shared}
theorem row_find {K : PySem.W.Frag} {l : List (L2.Key × V)} {ps : List (L2.Key × PyData)} {vs : List (L2.Key × Value)} (r : DRow K H l ps) (kv : KV l vs) (k : L2.Key) :
    (valueAt vs k = none ∧ ((ps.find? fun y => y.1 = k).map (·.2)) = none) ∨ ∃ u x d, valueAt vs k = some u ∧ ((ps.find? fun y => y.1 = k).map (·.2)) = some d ∧ Dp K H x d ∧ RelV x u ∧ d.depth ≤ 50 ∧ d.plain = true := by
  induction r generalizing vs with
  | nil => cases kv; exact .inl ⟨rfl, rfl⟩
  | @cons p q l ps a b ih =>
    cases kv with
    | @cons _ w _ ws k1 k2 =>
      obtain ⟨e1, d1, _, dd, pd⟩ := a
      obtain ⟨e2, r2⟩ := k1
      by_cases hk : p.1 = k
      · refine .inr ⟨w.2, p.2, q.2, ?_, ?_, d1, r2, dd, pd⟩
        · unfold valueAt; rw [List.find?_cons_of_pos (by simpa [← e2] using hk)]; rfl
        · rw [List.find?_cons_of_pos (by simpa [← e1] using hk)]; rfl
      · have h1 : valueAt (w :: ws) k = valueAt ws k := by unfold valueAt; rw [List.find?_cons_of_neg (by simpa [← e2] using hk)]
        have h2 : ((q :: ps).find? fun y => y.1 = k) = ps.find? fun y => y.1 = k := List.find?_cons_of_neg (by simpa [← e1] using hk)
        rw [h1, h2]
        exact ih k2
def hitB (q : List (L2.Key × PyData)) (x : L2.Key × PyData) : Bool := match (q.find? fun y => y.1 = x.1).map (·.2) with
  | some u => PyData.eqv x.2 u
  | none => false
theorem dEq_eq (p q : List (L2.Key × PyData)) : dEq p q = (p.length == q.length && p.all (hitB q)) := rfl
theorem hits_ok (I : Inv X pins σ H s) {A : Around} (hu : A.units + 60 < cLine) {l2 : List (L2.Key × V)} {p2 : List (L2.Key × PyData)} {v2 : List (L2.Key × Value)} (b2 : DRow X.K H l2 p2) (k2 : KV l2 v2) :
    ∀ {l : List (L2.Key × V)} {ps : List (L2.Key × PyData)} {vs : List (L2.Key × Value)}, DRow X.K H l ps → KV l vs → PySem.W.KeqHits A s v2 vs (ps.all (hitB p2))
  | _, _, _, .nil, kv => by cases kv; exact .nil
  | _, _, _, .cons (b := q) (l₂ := ps) a b, kv => by
    cases kv with
    | @cons _ w _ ws k1 kk =>
      obtain ⟨e1, d1, _, dd, pd⟩ := a
      obtain ⟨e2, r2⟩ := k1
      obtain ⟨wk, wv⟩ := w
      have ek : q.1 = wk := e1.symm.trans e2
      have ih := hits_ok I hu b2 k2 b kk
      rw [List.all_cons]
      rcases row_find b2 k2 wk with ⟨h1, h2⟩ | ⟨u, x, d, h1, h2, dx, rx, dl, pl⟩
      · have hb : hitB p2 q = false := by unfold hitB; rw [ek, h2]
        rw [hb, Bool.false_and]
        exact .miss h1
      · have hb : hitB p2 q = PyData.eqv q.2 d := by unfold hitB; rw [ek, h2]
        rw [hb]
        obtain ⟨as, ra⟩ := Dp.reads I _ _ _ d1 r2
        obtain ⟨bs, rb⟩ := Dp.reads I _ _ _ dx rx
        exact .hit h1 (SeqAt.eqAt_plain _ _ A s _ _ _ _ ra rb pd pl (by omega)) ih
theorem hits_p {P : Program} {w : World} {A : Around} {kb : List (L2.Key × Value)} : ∀ {l : List (L2.Key × Value)} {b : Bool}, PySem.W.KeqHits A s kb l b → PySem.W.KeqHitsP P w A s kb l b
  | _, _, .nil => .nil
  | _, _, .miss h => .miss h
  | _, _, .hit h e r => .hit h e.eqP (hits_p r)
theorem row_plain {K : PySem.W.Frag} : ∀ {l : List (L2.Key × V)} {ps : List (L2.Key × PyData)}, DRow K H l ps → ∀ x ∈ ps, x.2.plain = true
  | _, _, .nil => fun x hx => nomatch hx
  | _, _, .cons a b => fun x hx => by
    rcases List.mem_cons.mp hx with rfl | hx
    · exact a.2.2.2.2
    · exact row_plain b x hx
theorem row_self (I : Inv X pins σ H s) {l : List (L2.Key × V)} {ps : List (L2.Key × PyData)} {a : Addr} (e : H a = some (.dK l)) (b : DRow X.K H l ps) : dEq ps ps = true := by
  obtain ⟨_, _, vs, kv, o, es, ep, _, _, _, _, _, nd⟩ := (show ObjOk X.prog X.w H s.heap a (.dK l) from I.hok a _ e)
  have nd2 : (ps.map (·.1)).Nodup := by
    have e1 : ∀ {l : List (L2.Key × V)} {ps : List (L2.Key × PyData)} {vs : List (L2.Key × Value)}, DRow X.K H l ps → KV l vs → ps.map (·.1) = vs.map (·.1) := by
      intro l ps vs r
      induction r generalizing vs with
      | nil => intro kv; cases kv; rfl
      | cons a _ ih =>
        intro kv
        cases kv with
        | cons k1 k2 => rw [List.map_cons, List.map_cons, ih k2, ← a.1, k1.1]
    rw [e1 b kv]; exact nd
  have pl := row_plain b
  rw [dEq_eq]
  have : ps.all (hitB ps) = true := by
    rw [List.all_eq_true]
    intro x hx
    have hf : ps.find? (fun y => y.1 = x.1) = some x := by
      clear pl b e kv nd
      induction ps with
      | nil => cases hx
      | cons y ys ih =>
        rw [List.map_cons, List.nodup_cons] at nd2
        rcases List.mem_cons.mp hx with rfl | hx
        · exact List.find?_cons_of_pos (by simp)
        · rw [List.find?_cons_of_neg (by
            simp only [decide_eq_true_eq]
            intro z
            exact nd2.1 (z ▸ List.mem_map_of_mem hx))]
          exact ih nd2.2 hx
    unfold hitB
    rw [hf]
    exact SeqAt.eqv_refl_plain _ (pl x hx)
  rw [this]
  simp
theorem dicD_inj {p q : List (L2.Key × PyData)} (e : dicD p = dicD q) : p = q := by
  unfold dicD at e
  injection e with e
  have kinj : ∀ a b : L2.Key, kD a = kD b → a = b := fun a b z => by
    cases a <;> cases b <;> simp [kD] at z <;> rw [z]
  induction p generalizing q with
  | nil => cases q with
    | nil => rfl
    | cons y ys => simp at e
  | cons x xs ih => cases q with
    | nil => simp at e
    | cons y ys =>
      rw [List.map_cons, List.map_cons] at e
      injection e with e1 e2
      injection e1 with e3 e4
      rw [ih e2, show x = y from Prod.ext (kinj _ _ e3) e4]
theorem DpE.eqP (I : Inv X pins σ H s) {A : Around} (hu : A.units + 62 < cLine) {x y : V} {u v : Value} {d : PyData} (a : DpE X.K H x d) (b : DpE X.K H y d) (ru : RelV x u) (rv : RelV y v) : SeqAt.EqP X.prog X.w A s u v true := by
  cases a with
  | pl a dd pd =>
    cases b with
    | pl b _ _ =>
      obtain ⟨as, r1⟩ := Dp.reads I _ _ _ a ru
      obtain ⟨bs, r2⟩ := Dp.reads I _ _ _ b rv
      have q := SeqAt.eqAt_plain _ _ A s _ _ _ _ r1 r2 pd pd (by omega)
      rw [SeqAt.eqv_refl_plain _ pd] at q
      exact q.eqP
    | dic e2 b2 => simp [dicD, PyData.plain] at pd
  | @dic a1 l1 p1 e1 b1 =>
    generalize hd : dicD p1 = d at b
    cases b with
    | pl b _ pd => rw [← hd] at pd; simp [dicD, PyData.plain] at pd
    | @dic a2 l2 p2 e2 b2 =>
      have ep := dicD_inj hd
      subst ep
      cases (show u = Value.ref a1 from ru)
      cases (show v = Value.ref a2 from rv)
      by_cases ne : a1 = a2
      · subst ne; exact (SeqAt.EqAt.same _).eqP
      · obtain ⟨_, y1, v1, k1, D1⟩ := (show ObjOk X.prog X.w H s.heap a1 (.dK l1) from I.hok a1 _ e1)
        obtain ⟨_, y2, v2, k2, D2⟩ := (show ObjOk X.prog X.w H s.heap a2 (.dK l2) from I.hok a2 _ e2)
        have hh := hits_ok (A := A.in1) I (by show A.units + 1 + 60 < cLine; omega) b2 k2 b1 k1
        have sf := row_self I e1 b1
        rw [dEq_eq, Bool.and_eq_true] at sf
        rw [sf.2] at hh
        have hl : v1.length = v2.length := by rw [← k1.length, ← k2.length, b1.length, b2.length]
        refine SeqAt.eqP_refs ne fun E Q q => PySem.W.rcP_dicts (knd := mixKind X.prog X.w) (r := true) y1 y2 D1 D2 (by omega) (fun _ => hits_p hh) E Q ?_
        rw [show (v1.length == v2.length && true) = true by simp [hl]]
        exact q
theorem eqPs (I : Inv X pins σ H s) {A : Around} (hu : A.units + 62 < cLine) : ∀ {xs ys : List V} {ds : List PyData} {us vs : List Value}, Paired (DpE X.K H) xs ds → Paired (DpE X.K H) ys ds → Vals xs us → Vals ys vs →
    us.length = vs.length ∧ ∀ j (h1 : j < us.length) (h2 : j < vs.length), SeqAt.EqP X.prog X.w A s us[j] vs[j] true
  | _, _, _, _, _, .nil, b, r1, r2 => by
    cases b; cases r1; cases r2
    exact ⟨rfl, fun j h1 => absurd h1 (Nat.not_lt_zero j)⟩
  | _, _, _, _, _, .cons a a2, b, r1, r2 => by
    cases b with
    | cons b b2 =>
      cases r1 with
      | cons r r1 =>
        cases r2 with
        | cons t r2 =>
          obtain ⟨e, q⟩ := eqPs I hu a2 b2 r1 r2
          refine ⟨by simp [e], fun j h1 h2 => ?_⟩
          cases j with
          | zero => exact a.eqP I hu b r t
          | succ j => exact q j (Nat.lt_of_succ_lt_succ h1) (Nat.lt_of_succ_lt_succ h2)
end
def eqX (neg : Bool) : LO := fun v w h P => eqE neg v w h P ∨
  (∃ r q k1 k2 p1 p2, v = .ref r ∧ w = .ref q ∧ h[r]? = some (.dic k1) ∧ h[q]? = some (.dic k2) ∧ DKV h k1 p1 ∧ DKV h k2 p2 ∧ P (.bl (neg ^^ dEq p1 p2)) h) ∨
  (neg = false ∧ ∃ r q xs ys ds, v = .ref r ∧ w = .ref q ∧ h[r]? = some (.lst xs) ∧ h[q]? = some (.lst ys) ∧ DatEs h xs ds ∧ DatEs h ys ds ∧ P (.bl true) h) ∨
  (∃ r q k1 k2 ps, v = .ref r ∧ w = .ref q ∧ h[r]? = some (.dic k1) ∧ h[q]? = some (.dic k2) ∧ DKV h k1 ps ∧ DKV h k2 ps ∧ P (.bl (!neg)) h)
def rEqX (neg : Bool) (K : PySem.W.Frag) : R2 := fun x y H Q => (∃ d e, Dp K H x d ∧ Dp K H y e ∧ d.depth ≤ 60 ∧ d.plain = true ∧ e.plain = true ∧ Q (.bl (neg ^^ PyData.eqv d e)) H) ∨
  (∃ a b k1 k2 p1 p2, x = .ref a ∧ y = .ref b ∧ H a = some (.dK k1) ∧ H b = some (.dK k2) ∧ DRow K H k1 p1 ∧ DRow K H k2 p2 ∧ Q (.bl (neg ^^ dEq p1 p2)) H) ∨
  (neg = false ∧ ∃ a b xs ys ds, x = .ref a ∧ y = .ref b ∧ SqL K H a xs ∧ SqL K H b ys ∧ Paired (DpE K H) xs ds ∧ Paired (DpE K H) ys ds ∧ Q (.bl true) H) ∨
  (∃ a b k1 k2 ps, x = .ref a ∧ y = .ref b ∧ H a = some (.dK k1) ∧ H b = some (.dK k2) ∧ DRow K H k1 ps ∧ DRow K H k2 ps ∧ Q (.bl (!neg)) H)
theorem eqX_sim {K : PySem.W.Frag} {neg : Bool} : LOp K (rEqX neg K) (eqX neg) := by
  intro m h H v w x y P Q R rx ry q k
  rcases q with q | ⟨r, q, k1, k2, p1, p2, rfl, rfl, e1, e2, d1, d2, p⟩ | ⟨ng, r, q, xs, ys, ds, rfl, rfl, e1, e2, d1, d2, p⟩ | ⟨r, q, k1, k2, ps, rfl, rfl, e1, e2, d1, d2, p⟩
  · exact .inl (eq_sim R rx ry q k)
  · rw [aC] at rx ry
    obtain ⟨_, rfl⟩ := rx
    obtain ⟨_, rfl⟩ := ry
    obtain ⟨l1, h1, t1⟩ := R.obj _ _ e1
    obtain ⟨l2, h2, t2⟩ := R.obj _ _ e2
    exact .inr (.inl ⟨_, _, l1, l2, p1, p2, rfl, rfl, h1, h2, d1.row R t1, d2.row R t2, k.same R p (by rw [aC])⟩)
  · rw [aC] at rx ry
    obtain ⟨_, rfl⟩ := rx
    obtain ⟨_, rfl⟩ := ry
    obtain ⟨l1, h1, t1⟩ := R.obj _ _ e1
    obtain ⟨l2, h2, t2⟩ := R.obj _ _ e2
    exact .inr (.inr (.inl ⟨ng, _, _, l1, l2, ds, rfl, rfl, SqL.of h1, SqL.of h2, d1.dp R t1, d2.dp R t2, k.same R p (by rw [aC])⟩))
  · rw [aC] at rx ry
    obtain ⟨_, rfl⟩ := rx
    obtain ⟨_, rfl⟩ := ry
    obtain ⟨l1, h1, t1⟩ := R.obj _ _ e1
    obtain ⟨l2, h2, t2⟩ := R.obj _ _ e2
    exact .inr (.inr (.inr ⟨_, _, l1, l2, ps, rfl, rfl, h1, h2, d1.row R t1, d2.row R t2, k.same R p (by rw [aC])⟩))
section
variable {X : Cx}
theorem lo_eqX (hu : X.A.units + 64 < cLine) : oA X (compareOp .Eq) (eqX false) := by
  refine ⟨rEqX false X.K, ?_, eqX_sim⟩
  intro pins s σ H x y v u Q I rx ry h
  have fold : (∃ a b k1 k2 p1 p2, x = .ref a ∧ y = .ref b ∧ H a = some (.dK k1) ∧ H b = some (.dK k2) ∧ DRow X.K H k1 p1 ∧ DRow X.K H k2 p2 ∧ Q (.bl (false ^^ dEq p1 p2)) H) ∨ (∃ a b k1 k2 ps, x = .ref a ∧ y = .ref b ∧ H a = some (.dK k1) ∧ H b = some (.dK k2) ∧ DRow X.K H k1 ps ∧ DRow X.K H k2 ps ∧ Q (.bl (!false)) H) →
      ∃ a b k1 k2 p1 p2, x = .ref a ∧ y = .ref b ∧ H a = some (.dK k1) ∧ H b = some (.dK k2) ∧ DRow X.K H k1 p1 ∧ DRow X.K H k2 p2 ∧ Q (.bl (false ^^ dEq p1 p2)) H := by
    rintro (z | ⟨a, b, k1, k2, ps, ea, eb, e1, e2, r1, r2, q⟩)
    · exact z
    · exact ⟨a, b, k1, k2, ps, ps, ea, eb, e1, e2, r1, r2, by rw [row_self I e1 r1]; exact q⟩
  replace h : (∃ d e, Dp X.K H x d ∧ Dp X.K H y e ∧ d.depth ≤ 60 ∧ d.plain = true ∧ e.plain = true ∧ Q (.bl (false ^^ PyData.eqv d e)) H) ∨ (∃ a b k1 k2 p1 p2, x = .ref a ∧ y = .ref b ∧ H a = some (.dK k1) ∧ H b = some (.dK k2) ∧ DRow X.K H k1 p1 ∧ DRow X.K H k2 p2 ∧ Q (.bl (false ^^ dEq p1 p2)) H) ∨
      (false = false ∧ ∃ a b xs ys ds, x = .ref a ∧ y = .ref b ∧ SqL X.K H a xs ∧ SqL X.K H b ys ∧ Paired (DpE X.K H) xs ds ∧ Paired (DpE X.K H) ys ds ∧ Q (.bl true) H) := by
    rcases h with h | h | h | h
    · exact .inl h
    · exact .inr (.inl h)
    · exact .inr (.inr h)
    · exact .inr (.inl (fold (.inr h)))
  rcases h with ⟨d, e, hd, he, dd, pd, pe, q⟩ | ⟨a, b, k1, k2, p1, p2, rfl, rfl, e1, e2, r1, r2, q⟩ | ⟨_, a, b, xs, ys, ds, rfl, rfl, h1, h2, d1, d2, q⟩
  · obtain ⟨as, r1⟩ := Dp.reads I d x v hd rx
    obtain ⟨bs, r2⟩ := Dp.reads I e y u he ry
    exact PySem.SeqAt.eq_plain r1 r2 pd pe (by omega) ⟨.bl _, H, I, rfl, by simpa using q⟩
  · cases (show v = Value.ref a from rx)
    cases (show u = Value.ref b from ry)
    obtain ⟨_, y1, v1, t1, D1⟩ := (show ObjOk X.prog X.w H s.heap a (.dK k1) from I.hok a _ e1)
    obtain ⟨_, y2, v2, t2, D2⟩ := (show ObjOk X.prog X.w H s.heap b (.dK k2) from I.hok b _ e2)
    refine PySem.W.keq_eq (knd := mixKind X.prog X.w) y1 y2 D1 D2 (by omega) (fun _ => hits_ok I (by show X.A.units + 1 + 60 < cLine; omega) r2 t2 r1 t1) ⟨.bl _, H, I, rfl, ?_⟩
    rw [dEq_eq] at q
    rw [← t1.length, ← t2.length, r1.length, r2.length]
    simpa using q
  · cases (show v = Value.ref a from rx)
    cases (show u = Value.ref b from ry)
    obtain ⟨us, s1, g1, _⟩ := I.list h1
    obtain ⟨ws, s2, g2, _⟩ := I.list h2
    obtain ⟨hl, he⟩ := eqPs I (A := X.A.in1) (by show X.A.units + 1 + 62 < cLine; omega) d1 d2 s1 s2
    refine SeqAt.rcP_lists (e := fun _ => true) g1.isList g2.isList (by simpa using hl) (by omega) (fun j j1 j2 => ?_) _ _ ⟨.bl true, H, I, ?_, q⟩
    · have k := he j (by simpa using j1) (by simpa using j2)
      simpa using k
    · rw [show ((List.range us.toArray.size).all fun _ => true) = true from List.all_eq_true.mpr fun _ _ => rfl]
      rfl
end
end Y
namespace Y
open PySem PySem.Spec PyProof.Rows L2
theorem mcall_eq {o e : Expr} {name : Str} {apos pos : Pos} {env : Env} {ov : Value} (hl : (apos.endLine == pos.line) = true) (he : starEach [e] env = [(false, eval e env)]) :
    methodCall o name apos pos env ov 1 (backTo pos (starEach [e] env)) [] = (do
      let (f, first) ← holding [ov] (getMethod ov name (do return (← importBound o env).getD true))
      callWith pos f first (backTo pos (starEach [e] env)) []) := by
  have hf : methodCallForm 1 (backTo pos (starEach [e] env)) [] = true := by rw [he]; rfl
  unfold methodCall methodCallPos calleeOf
  rw [hf]
  simp only [if_true, Bool.not_true, hl, Bool.or_true, pure_bind, Bool.false_or]
theorem call_form {o : Expr} {name x : Str} {p3 apos pos : Pos} {env : Env} (hl : (apos.endLine == pos.line) = true) : eval (.Call (.Attribute o name apos) [.Name x p3] [] pos) env = (do
      let ov ← attributeBase o name env (eval o env)
      standAt apos.atName
      let (f, first) ← holding [ov] (getMethod ov name (do return (← importBound o env).getD true))
      callWith pos f first (backTo pos (starEach [.Name x p3] env)) []) :=
  congrArg (fun k : Value → Sem Value => attributeBase o name env (eval o env) >>= k) (funext fun ov => congrArg (fun k : Sem Value => standAt apos.atName >>= fun _ => k) (mcall_eq hl rfl))
def InitBody (x f : Str) (body : List Stmt) : Prop := ∃ p0 p1 p2 p3 p4 p5 p6 p7 p8 p9 : Pos,
  (p2.endLine == p4.line) = true ∧ body = [.Expr (.Call (.Attribute (.Call (.Name "super" p0) [] [] p1) "__init__" p2) [.Name x p3] [] p4) p5, .Assign [.Attribute (.Name "self" p6) f p7] (.Name x p8) p9]
structure InitFn (P : Program) (K : PySem.W.Frag) (C fI : Addr) (x f : Str) : Prop where
  fn : ∃ (oc : Value) (od : Option Addr) (osl : Array (Option Value)) (n q : Str) (a1 a2 : Arg) (body : List Stmt) (scope : Scope) (cc cda : Addr) (kV doc pm ct : Value) (an : Option Addr),
    K.lookup fI = some ⟨oc, od, .func (PySem.W.fnX n q ⟨[], [a1, a2], none, [], [], none, []⟩ body scope [("__class__", cc)] .none kV doc pm an (.ref cda) ct), osl⟩ ∧
    a1.arg = "self" ∧ a2.arg = x ∧ InitBody x f body ∧ PySem.W.codeIn K (.ref cda) q = true ∧
    scope.kind = .function ∧ scope.isCoroutine = false ∧ scope.isGenerator = false ∧ scope.names.lookup ("super" : Str) = some .globalImplicit ∧ scope.names.lookup ("__class__" : Str) = some .free ∧ scope.names.lookup ("self" : Str) = some .local ∧
    scope.names.lookup x = some .local ∧ (∀ y ∈ scope.names, y.2 ≠ .cell) ∧
    (∃ (ccl : Value) (cdd : Option Addr) (vs : Array Value) (ccs : Array (Option Value)) (file : Str) (tf : Tok), K.lookup cda = some ⟨ccl, cdd, .fields vs, ccs⟩ ∧ vs[2]? = some (.str file tf) ∧ ((P.main.file : Str) == file) = true) ∧
    ∃ (cl : Value) (cld : Option Addr) (csl : Array (Option Value)), K.lookup cc = some ⟨cl, cld, .cell (some (.ref C)), csl⟩
  ne : (x == ("self" : Str)) = false
  xd : (x == ("__debug__" : Str)) = false
structure ExcC (P : Program) (K : PySem.W.Frag) (C : Addr) (x f : Str) : Prop where
  oex : OexC K C
  xf : XfC K C
  no : PySem.W.findIn K (.ref C) f = some none
  init : ∃ fI, PySem.W.findIn K (.ref C) "__init__" = some (some (.ref fI)) ∧ PySem.W.typeIn K (.ref fI) = some (.type "function") ∧ InitFn P K C fI x f
  top : (P.main.scope.names.lookup ("super" : Str)).isSome = false
  sup : PySem.W.nsIn K mainGlobals "super" = some none
  mro : PySem.W.mroIn K C (.ref C) = some true
  up : PySem.W.ks_superIn K C C "__init__" = some (some (.builtin "ValueError.__init__"))
  sub : PySem.W.subIn K (.ref C) (.type "ValueError") = some true
  st : PySem.W.nsIn K cStatics "thirdparty.any" = some none
  ein : PySem.W.excInitIn K C [.type "ValueError", .type "Exception", .type "BaseException", .type "object"] "ValueError.__new__" = true
section
variable {P : Program} {w : World} {K : PySem.W.Frag} {A : Around} {hp : Heap} {g : Array GenState} {dr : Drawn} {tk : Nat} {os : OsState} {C fI e t0 : Addr} {x f : Str} {u : Value} {R : Result → Shared → Prop}
theorem exc_init {mg : Str → Option Value} {h0 : Heap} (T : ExcC P K C x f) (Fi : InitFn P K C fI x f) (X0 : K.In h0) (G : h0.Ns mainGlobals mg) {mb : Str → Option Value} (B : h0.Ns builtinsNs mb) (hb : ∀ y : Str, y ≠ "__name__" → mb y = bootBuiltins y) (nl : h0.NoLimit)
    (k0 : ∀ b o, h0.get? b = some o → hp.get? b = some o) (hsz : h0.objs.size ≤ hp.objs.size) (hn : h0.get? e = none) (he : hp.get? e = some (PySem.W.excObj C t0 none .none)) (hd : A.depth < recursionLimit)
    (hq : ∀ h' tk' dx t', (∀ b o, h0.get? b = some o → h'.get? b = some o) → h'.get? e = some (PySem.W.excObj C t' (some dx) .none) → h0.objs.size ≤ dx → dx ≠ e → h'.Ns1 dx (fun y => if y = f then some u else none) →
      R (.ok (.ret .none)) ⟨h', g, dr, tk', os⟩) :
    codeAny (model P w) A (.call (.ref fI) ⟨[.ref e, u], []⟩) R ⟨hp, g, dr, tk, os⟩ := by
  obtain ⟨oc, od, osl, n, q, a1, a2, body, scope, cc, cda, kV, doc, pm, ct, an, lk, ea1, ea2, hbody, hcd, sk, sco, sge, ssu, scl, sse, sx, nocell, ⟨ccl, cdd, vs, ccs, file, tf, lkc, hvs, hfile⟩, cl, cld, csl, lkcell⟩ := Fi.fn
  have XH : K.In hp := X0.keeps k0
  have nx := Fi.ne
  refine ks_codeAny_call_defAt (binds := [(("self" : Str), Value.ref e), (x, u)]) hd (XH _ _ lk) rfl (nl.keeps k0) (PySem.W.codeRec_of XH hcd) rfl (.of_eq ?_) nocell (fun y hy => ?_) (fun h1 hns hk1 => ?_) sco sge sk
  · have e1 : (a2.arg == ("self" : Str)) = false := by rw [ea2]; exact nx
    have e2 : (("self" : Str) == a2.arg) = false := by
      rw [Bool.eq_false_iff]; intro z
      rw [← eq_of_beq z] at e1; simp at e1
    subst ea2
    unfold bindArgs
    simp [PySem.W.fnX, ea1, List.lookup, e1, e2, seqItems?]
    rfl
  · rcases List.mem_cons.mp hy with rfl | hy
    · exact sse
    · rcases List.mem_cons.mp hy with rfl | hy
      · exact sx
      · cases hy
  obtain ⟨p0, p1, p2, p3, p4, p5, p6, p7, p8, p9, hl, rfl⟩ := hbody
  have kk1 : ∀ b o, h0.get? b = some o → h1.get? b = some o := fun b o z => hk1 b o (k0 b o z)
  have Fr1 : PyProof.Rows.Fr h0 hp.objs.size h1 (fun y => [(("self" : Str), Value.ref e), (x, u)].reverse.lookup y) := ⟨hns, kk1, hsz⟩
  have eL : e ≠ hp.objs.size := Nat.ne_of_lt (Heap.lt_size he)
  have N1 : PyProof.Rows.News h0 hp.objs.size h1 [(e, PySem.W.excObj C t0 none .none)] := fun p hp' => by
    rcases List.mem_cons.mp hp' with rfl | z
    · exact ⟨hk1 _ _ he, eL, hn⟩
    · cases z
  have mself : (fun y => [(("self" : Str), Value.ref e), (x, u)].reverse.lookup y) "self" = some (Value.ref e) := by
    show List.lookup ("self" : Str) [(x, u), (("self" : Str), Value.ref e)] = _
    have e1 : (("self" : Str) == x) = false := by
      rw [Bool.eq_false_iff]; intro z
      have z2 := eq_of_beq z
      rw [← z2] at nx; simp at nx
    simp [List.lookup, e1]
  have mx : (fun y => [(("self" : Str), Value.ref e), (x, u)].reverse.lookup y) x = some u := by
    show List.lookup x [(x, u), (("self" : Str), Value.ref e)] = _
    simp [List.lookup]
  generalize hm : (fun y => [(("self" : Str), Value.ref e), (x, u)].reverse.lookup y) = m at Fr1 mself mx
  have hns' : h1.Ns hp.objs.size m := Fr1.ns
  refine ks_wpAt_execs_cons (ks_wpAt_Expr_any (ks_wpAt_MethodCall (pl := _) ?_ (call_form hl)) (by unfold interactive; simp [callEnv, newEnv, PySem.W.fnX, sk]))
  have I1 : PySem.W.InstAt h1 e (PySem.W.excObj C t0 none .none) C none := ⟨(N1 _ (List.mem_singleton.mpr rfl)).1, rfl, rfl, trivial⟩
  have clsC : ∃ cd, PySem.W.clsIn K C = some cd := by
    have z := T.mro
    unfold PySem.W.mroIn at z
    cases q : PySem.W.clsIn K C with
    | none => rw [q] at z; cases z
    | some cd => exact ⟨cd, rfl⟩
  obtain ⟨cd, hcls⟩ := clsC
  obtain ⟨oD, hD1, hD2⟩ : ∃ oD, h1.get? C = some oD ∧ oD.data = .cls cd := by
    unfold PySem.W.clsIn at hcls
    split at hcls
    · rename_i ho
      cases hcls
      exact ⟨_, hk1 _ _ (XH _ _ ho), rfl⟩
    · cases hcls
  have XH1 : K.In h1 := X0.keeps kk1
  refine ks_wpAt_super_base ssu scl (by decide) rfl (XH1 _ _ lk) rfl rfl rfl (XH1 _ _ lkc) rfl hvs hfile T.top ?_
  refine PySem.W.ks_loadName_global sk ssu (Calls.loadGlobal_builtin (mg := mg) (mb := mb) (G.keeps kk1) (PySem.W.mg_none_of X0 G T.sup) (B.keeps kk1) ((hb "super" (by decide)).trans PyProof.Rows.Boot.«super») ⟨rfl, ?_⟩)
  refine wpAny_loadName_free sk scl rfl ⟨_, XH1 _ _ lkcell, rfl⟩ ?_
  rw [ea1]
  refine wpAny_loadName_local sk sse hns' mself ?_
  refine PySem.ks_wpAny_isType_cls hD1 hD2 ⟨rfl, ?_⟩
  refine ks_wpAny_call_super hD1 hD2 I1.at_ rfl (fun c z => nomatch z) (PySem.W.looks_mroIn XH1 T.mro) (fun h2 e2 k2 => ?_)
  obtain ⟨Fr2, N2, lt2⟩ := PySem.W.ks_newsPush (s := ⟨h1, g, dr, 0, os⟩) Fr1 N1 rfl e2 k2
  have I2 : PySem.W.InstAt h2 e (PySem.W.excObj C t0 none .none) C none := ⟨k2 _ _ I1.at_, rfl, rfl, trivial⟩
  refine PySem.W.kxs_method (s := ⟨h2, g, dr, _, os⟩) PySem.W.kxs_ValueError Fr2 X0 N2 (List.mem_cons_self ..) I2 T.st T.up T.sub (by decide) (fun q3 h3 Fr3 N3 lt3 => ?_)
  refine PySem.W.kxs_callWith1 (s := ⟨h3, g, dr, _, os⟩) N3 (List.mem_cons_self ..) ?_ rfl rfl
  refine Calls.spliced_cons (wpAny_Name (wpAny_loadName_local sk sx Fr3.ns mx ?_) Fi.xd)
  refine Calls.spliced_nil ⟨(N3 _ (List.mem_cons_self ..)).1, ?_⟩
  have ne3 : ∀ p ∈ [(h1.objs.size, PySem.W.ks_superObj C e C), (e, PySem.W.excObj C t0 none .none)], p.1 < q3 := lt3
  have hlt : e < h1.objs.size := Heap.lt_size I1.at_
  have hq3 : q3 ≠ e := Nat.ne_of_gt (lt3 (e, PySem.W.excObj C t0 none .none) (by simp))
  have UF : PySem.W.UpdF e (PySem.W.excObj C t0 none .none) [(q3, PySem.W.kxs_mw "ValueError.__init__" e), (h1.objs.size, PySem.W.ks_superObj C e C), (e, PySem.W.excObj C t0 none .none)]
      (fun o' => [(q3, PySem.W.kxs_mw "ValueError.__init__" e), (h1.objs.size, PySem.W.ks_superObj C e C), (e, o')]) := .tail hq3 (.tail (Nat.ne_of_gt hlt) (.head (fun p z => nomatch z)))
  refine PySem.W.kxs_call (s := ⟨h3, g, dr, _, os⟩) Fr3 X0 N3 F.excBase_ValueError T.ein (List.mem_cons_self ..) UF (by rw [sizeLine_eq]; simp) (fun t4 h4 Fr4 N4 lt4 => ?_)
  have he4 : h4.get? e = some (PySem.W.excObj C t4 none .none) := (N4 (e, PySem.W.excObj C t4 none .none) (by simp)).1
  have kk4 := Fr4.keep
  refine ks_wpAt_execs_cons (ks_wpAt_Assign_Attr (wpAt_of_wpAny (wpAny_Name (wpAny_loadName_local sk sx Fr4.ns mx ?_) Fi.xd)) rfl)
  refine wpAny_Name (wpAny_loadName_local sk sse Fr4.ns mself ?_) (by decide)
  obtain ⟨nm, qq, NN, bs, bm, sn, sub, ab, col, dd, c0, c1, c2, c3, c5, hC, hbm⟩ := T.oex.cls
  have hcl : PySem.W.clsIn K C = some { name := nm, bases := bs, mro := .ref C :: bm, ns := NN, qualname := qq, hasDict := true, slotNames := sn, subclasses := sub, abstract := ab, collection := col, hasDel := false } := by unfold PySem.W.clsIn; rw [hC] <;> rfl
  have XH4 : K.In h4 := X0.keeps kk4
  refine PySem.W.set_plain (s := ⟨h4, g, dr, _, os⟩) (C := C) (od := none) XH4 ⟨he4, rfl, rfl, trivial⟩ T.oex.sa ?_
  refine PySem.HandSPX.exc_osa XH4 he4 hcl (show PySem.HandSPX.refsVE (.ref C :: bm) = true from hbm) rfl T.no (fun h5 tk5 dx k5 dn dne hx5 hn5 => ?_)
  refine wpAt_of_wpAny (wpAny_execs_nil ?_)
  have s04 : h0.objs.size ≤ h4.objs.size := by
    have a1 : h0.objs.size ≤ hp.objs.size := hsz
    have a2 : hp.objs.size < h4.objs.size := by
      obtain ⟨oL, _, _, hL, _⟩ := Fr4.ns
      exact Heap.lt_size hL
    omega
  refine hq h5 _ dx t4 (fun b o z => k5 b o (fun y => by rw [y, hn] at z; cases z) (kk4 b o z)) hx5 (Nat.le_trans s04 dn) dne hn5
end
section
variable {X : Cx} {C : Addr} {x f : Str}
theorem restricted (h : Heap) (e : Addr) : ∃ G : Heap, (∀ b, b ≠ e → G.get? b = h.get? b) ∧ G.get? e = none := by
  obtain ⟨G, a, b⟩ := restrict h fun b => decide (b ≠ e)
  exact ⟨G, fun c hc => a c (decide_eq_true hc), b e (by simp)⟩
theorem pmk_C {y : Str} {e : Expr} {te : TE} {p pos : Pos} (T : ExcC X.prog X.K C x f) (hr : Room 1 X.A) (hg : Gl X y) (hm : X.mg y = some (.ref C)) (he : PE X e te)
    (hdb : (y == ("__debug__" : Str)) = false := by decide) (hse : starEach [e] X.env = (false, eval e X.env) :: starEach [] X.env := by rfl) :
    PMk X (.Call (.Name y p) [e] [] pos) (fun σ H Q => te σ H fun v H1 => ∀ d, H1 d = none → Q (.ref C) (some d) (upd H1 d (.xd [(f, v)]))) := by
  intro pins s σ H Q I h
  obtain ⟨nm, q, N, bs, bm, sn, sub, ab, col, dd, k0, k1, k2, k3, k5, hC, hbm⟩ := T.oex.cls
  obtain ⟨fI, iC, tI, Fi⟩ := T.init
  refine wpAny_Call_Name_kw (ld_glob I hg hm ?_ hdb)
  refine PySem.W.callWith_K (h₀ := X.base) I.ok.mod.kin T.oex.kC (thn ((pa_cons he pa_nil hse).run pos pins s σ H (fun vs H1 => match vs with
    | [v] => ∀ d, H1 d = none → Q (.ref C) (some d) (upd H1 d (.xd [(f, v)]))
    | _ => False) I h) fun us s1 ⟨vs, H1, I1, r1, q1⟩ => ⟨I1.kIn, ?_⟩) hse rfl
  match vs, q1 with
  | [v], q1 =>
    obtain ⟨u, rfl, ru⟩ := vals1 r1
    show wpAny _ _ (call (.ref C) [u]) _ _ _
    obtain ⟨mm, fr⟩ := I1.fr
    obtain ⟨mb, hmb, hbb⟩ := I1.ok.mod.blt
    obtain ⟨hp, g, dr, tk, os⟩ := s1
    have XH : X.K.In hp := I1.kIn
    have kk : ∀ b o, hp.get? b = some o → ((hp.push (PySem.W.kdv_tup [u])).push (PySem.HandSPX.excO C hp.objs.size)).get? b = some o := fun b o z => Heap.get?_push_of_some _ (Heap.get?_push_of_some _ z)
    have hget : ((hp.push (PySem.W.kdv_tup [u])).push (PySem.HandSPX.excO C hp.objs.size)).get? (hp.objs.size + 1) = some (PySem.HandSPX.excO C hp.objs.size) := by heap_get
    have hno : ∀ n, hp.get? (hp.objs.size + n) = none := fun n => Heap.get?_none_of_le (Nat.le_add_right _ _)
    refine wpAny_call (PySem.HandSPX.call_own F.excBase_ValueError (fun Y => PySem.HandSPX.refsVE_contains Y bm hbm) (XH _ _ hC) (PySem.W.looks_findIn XH iC) (fun self => PySem.W.bind_fn XH self tI) (by rw [sizeLine_eq]; simp)
      (exc_init (t0 := hp.objs.size) T Fi XH (I1.ok.mod.glob.keeps fr.keep) (hmb.keeps fr.keep) hbb (I1.ok.mod.nolimit.keeps fr.keep) kk (by rw [Heap.size_push, Heap.size_push]; omega) (hno 1) hget (hr.make C [u] []).depth ?_))
    intro h' tk' dx t' k5 hx5 dn dne hn5
    refine ⟨rfl, ?_⟩
    have hH1 : H1 dx = none := I1.hok.fresh dn
    have hHe : H1 (hp.objs.size + 1) = none := I1.hok.fresh (Nat.le_succ _)
    obtain ⟨G, gk, ge⟩ := restricted h' (hp.objs.size + 1)
    have nhe : ∀ {b : Addr} {o : Obj}, hp.get? b = some o → b ≠ hp.objs.size + 1 := fun {b o} z => Nat.ne_of_lt (Nat.lt_succ_of_lt (Heap.lt_size z))
    have nhd : ∀ {b : Addr} {o : Obj}, hp.get? b = some o → b ≠ dx := fun {b o} z => Nat.ne_of_lt (Nat.lt_of_lt_of_le (Heap.lt_size z) dn)
    have kG : ∀ b o, hp.get? b = some o → G.get? b = some o := fun b o z => (gk b (nhe z)).trans (k5 b o z)
    have U : Un (frs X.stack) [] H1 (upd H1 dx (.xd [(f, v)])) hp G := {
      keep := fun b o z _ _ _ => kG b o z
      slot := fun b o z _ _ _ => ⟨o.slots, kG b o z⟩
      free := fun b o z n _ => by rw [upd_ne (nhd z)]; exact n
      there := fun b o z _ => ⟨o, kG b o z⟩
      tups := fun b xs z => by rw [upd_ne (ne_of_none z hH1)]; exact z
      frzs := fun b o w z => by rw [upd_ne (ne_of_none z hH1)]; exact z
      tbls := fun b ps z => ⟨#[], by rw [upd_ne (ne_of_none z hH1), z]; simp⟩ }
    have hok3 : HOk X.prog X.w (upd H1 dx (.xd [(f, v)])) G := fun b o z => by
      by_cases hbd : b = dx
      · subst hbd
        rw [upd_same] at z
        cases z
        exact ⟨_, hn5.at fun o y => (gk b dne).trans y, relO_put (fs := []) ru fun _ => True.intro⟩
      · rw [upd_ne hbd] at z
        exact (I1.hok b o z).stay (fun c w _ y => kG c w y) (fun c hc => by rw [upd_ne (ne_of_none hc hH1)]; exact hc) (fun c xs hc => by rw [upd_ne (ne_of_none hc hH1)]; exact hc)
    have J : Inv X pins σ (upd H1 dx (.xd [(f, v)])) ⟨G, g, dr, tk', os⟩ := I1.call' (ch := []) rfl U hok3 I1.bare (fun b z => absurd z (by simp))
    refine ⟨hp.objs.size + 1, _, _, ⟨G, g, dr, tk', os⟩, _, .ref C, some dx, rfl, J, fun b o z => ?_, ge, hx5, ⟨rfl, rfl⟩, rfl, rfl, ?_, rfl, I1.bare, raises_own T.oex.exC T.oex.tyC, q1 dx hH1⟩
    · by_cases hb : b = hp.objs.size + 1
      · have z' : G.get? b = some o := z
        rw [hb, ge] at z'; cases z'
      · exact (gk b hb).symm.trans z
    · rw [upd_ne (Ne.symm dne)]; exact hHe
end
section
variable {K : PySem.W.Frag} {m m' : Nat → Addr} {n n' : Nat} {H H' : Hp} {h h' : EH}
theorem Ex.mark {e : EO} : Ex K m h.length H m (h ++ [e]).length H := ⟨by simp, fun _ _ => rfl, fun _ _ z => z, fun _ _ z => z⟩
theorem cC.mark (R : cC K m h H) : cC K m (h ++ [.mark m h.length H]) H := by
  refine ⟨fun r u hr => ?_, fun r q u v hr hq fu fv z => ?_⟩
  · rcases lU hr with ⟨q, hr⟩ | ⟨rfl, rfl⟩
    · exact (R.obj r u hr).ex Ex.mark rfl fun b => ⟨id, id⟩
    · exact Ex.mark
  · rcases lU hr with ⟨a, hr'⟩ | ⟨a, a'⟩
    · rcases lU hq with ⟨b, hq'⟩ | ⟨b, b'⟩
      · exact R.inj r q u v hr' hq' fu fv z
      · rw [b'] at fv; cases fv
    · rw [a'] at fu; cases fu
theorem At.mark {env : En} {σ : L2.St} (a : At K env h m σ H) : At K env (h ++ [.mark m h.length H]) m σ H := ⟨a.hp.mark, a.nm.ex Ex.mark⟩
theorem cC.marked {k : Nat} (R : cC K m' h' H') (e : h'[k]? = some (.mark m n H)) : Ex K m n H m' h'.length H' := R.obj k _ e
end
abbrev EW := Addr → List (Str × EV) → En → EH → Prop
abbrev ED := Addr → List (Str × EV) → EH → Prop
def DFs (K : PySem.W.Frag) (m : Nat → Addr) (n : Nat) (H : Hp) (d : Option Addr) (fs : List (Str × EV)) : Prop := (∃ dx l, d = some dx ∧ H dx = some (.xd l) ∧ qZ K m n H fs l) ∨ (d = none ∧ fs = [])
def upX (K : PySem.W.Frag) (W : EW) : WX := fun cls d σ H => ∃ m env h C fs, At K env h m σ H ∧ cls = .ref C ∧ DFs K m h.length H d fs ∧ W C fs env h
def KonX (K : PySem.W.Frag) (m : Nat → Addr) (n : Nat) (H : Hp) (W : ED) (E : XK) : Prop :=
  ∀ C fs h', W C fs h' → ∀ (m' : Nat → Addr) (H' : Hp) (d : Option Addr), Ex K m n H m' h'.length H' → cC K m' h' H' → DFs K m' h'.length H' d fs → E (.ref C) d H'
def lRaise (W : EW) (C : Addr) (f : Str) (te : LT) : LS := fun _ env h => te env h fun v h1 => W C [(f, v)] env h1
section
variable {X : Cx} {W : EW}
theorem ls_raise {C : Addr} {x f y : Str} {e : Expr} {te : LT} {p pos pos' : Pos} (T : ExcC X.prog X.K C x f) (tk : Takes X (upX X.K W)) (hc : X.calm = true) (hr : Room 1 X.A) (hg : Gl X y) (hm : X.mg y = some (.ref C)) (he : LE X e te)
    (hdb : (y == ("__debug__" : Str)) = false := by decide) (hse : starEach [e] X.env = (false, eval e X.env) :: starEach [] X.env := by rfl) :
    LSt X (.Raise (some (.Call (.Name y p) [e] [] pos)) none pos') (lRaise W C f te) := by
  refine ⟨PS.imp (ps_raise hc tk (pmk_C (pos := pos) T hr hg hm he.pe hdb hse)) fun D σ H ⟨m, env, h, P, at_, t1, k⟩ => ⟨m, env, h, _, at_, t1, fun v h1 p1 m1 H1 x E1 R1 r1 d hd => ?_⟩⟩
  have a1 := at_.ex E1 R1
  exact ⟨m1, env, h1, C, [(f, v)], ⟨R1.tup hd, a1.nm.ex (Ex.tup1 hd)⟩, rfl, .inl ⟨d, [(f, x)], rfl, upd_same, ⟨x, [], rfl, aC.ex (Ex.tup1 hd) _ _ r1, rfl⟩⟩, p1⟩
end
abbrev LSpX := List EV → EH → EK → ED → Prop
def upSpX (K : PySem.W.Frag) (sp : LSpX) : List V → Hp → VK → XK → Prop := fun vs H Q E => ∃ m h evs P W, cC K m h H ∧ aO K m h.length H evs vs ∧ sp evs h P W ∧ Kon K m h.length H P Q ∧ KonX K m h.length H W E
structure FnX (P : Program) (w : World) (K : PySem.W.Frag) (mg : Str → Option Value) (base : Heap) (k : Nat) (f : Addr) (fd : FuncData) (ps : List Str) (sp : LSpX) : Prop where
  len : ∀ evs h Q W, sp evs h Q W → evs.length = ps.length
  run : ∀ (A : Around) (outer : List Env) (s : Shared) (H : Hp) (args : Args) (us : List Value) (vs : List V) (Q : VK) (E : XK), Room k A → A.guards = some [] → Env0 P w K mg base A outer s H →
    BindsTo s fd args (ps.zip us) → Vals vs us → upSpX K sp vs H Q E → codeAny (model P w) A (.call (.ref f) args) (CR (CX P w) outer P w H s Q E) s
def lCallX (sp : LSpX) (W : EW) (t : LA) : LT := fun env h P => t env h fun vs h1 => sp vs h1 P fun C fs h2 => W C fs env h2
section
variable {X : Cx} {k : Nat} {f : Addr} {fd : FuncData} {ps : List Str} {sp : LSpX} {W : EW} {x : Str} {p pos : Pos} {e : Expr} {es : List Expr} {t : LA}
theorem runX {pins : List (Addr × Obj)} {σ : L2.St} {H : Hp} {s : Shared} {Q : VK} {us : List Value} {vs : List V} (Fn : FnX X.prog X.w X.K X.mg X.base k f fd ps sp) (tk : Takes X (upX X.K W)) (hr : Room k X.A) (hG : X.A.guards = some [])
    (hb : Binds X.K fd ps []) (I : Inv X pins σ H s) (r : Vals vs us) (q : upSpX X.K sp vs H Q fun cls d H' => upX X.K W cls d σ H') : wpAny (model X.prog X.w) X.A (call (.ref f) us) (EP X pins σ Q) X.xe s := by
  have hl : us.length = ps.length := by
    obtain ⟨m, h, evs, P, W', R, re, sq, _⟩ := q
    rw [← r.length, ← re.length]
    exact Fn.len _ _ _ _ sq
  have b := hb s us I.kIn (by simpa using hl)
  rw [List.append_nil] at b
  refine wpAny_call (codeAny_mono (Fn.run X.A X.stack s H _ us vs Q _ hr hG I.env0 b r q) fun o s' ho => ?_)
  match o, ho with
  | .error er, ho => exact tk er s' (XE.of_call I (fun _ _ _ z => z) ho)
  | .ok (.ret u), ho => exact I.after ho
  | .ok .next, ho => exact ho.elim
  | .ok .brk, ho => exact ho.elim
  | .ok .cont, ho => exact ho.elim
theorem le_callX (Fn : FnX X.prog X.w X.K X.mg X.base k f fd ps sp) (tk : Takes X (upX X.K W)) (hr : Room k X.A) (hG : X.A.guards = some []) (hg : Gl X x) (hm : X.mg x = some (.ref f)) (hk : PySem.W.keepIn X.K (.ref f) = true) (hb : Binds X.K fd ps [])
    (ha : LAs X (e :: es) t) (hdb : (x == ("__debug__" : Str)) = false := by decide) (he : starEach (e :: es) X.env = (false, eval e X.env) :: starEach es X.env := by rfl) (hpl : (backTo pos (starEach es X.env)).any (·.1) = false := by rfl) :
    LE X (.Call (.Name x p) (e :: es) [] pos) (lCallX sp W t) := by
  refine ⟨⟨fun pins s σ H Q I ⟨m, env, h, P, at_, t1, k⟩ => wpAny_Call_Name_kw (ld_glob I hg hm (PySem.W.callWith_K (h₀ := X.base) I.ok.mod.kin hk (thn (ha.pa.run pos pins s σ H (fun vs H1 => upSpX X.K sp vs H1 Q fun cls d H' => upX X.K W cls d σ H') I
    ⟨m, env, h, _, at_, t1, fun vs h1 p1 m1 H1 xs E1 R1 r1 => ?_⟩) fun us s1 ⟨vs, H1, I1, r, q1⟩ => ⟨I1.kIn, runX Fn tk hr hG hb I1 r q1⟩) he hpl) hdb)⟩⟩
  exact ⟨m1, h1, vs, P, _, R1, r1, p1, k.ex E1, fun C fs h2 w2 m2 H2 d2 E2 R2 df => ⟨m2, env, h2, C, fs, (at_.ex E1 R1).ex E2 R2, rfl, df, w2⟩⟩
end
theorem fnX_of {P : Program} {w : World} {K : PySem.W.Frag} {mg : Str → Option Value} {base : Heap} {k : Nat} {f : Addr} {fd : FuncData} {name qual : Str} {params : Arguments} {body : List Stmt} {scope : Scope} {N ps : List Str} {sp : LSpX} {t : EW → LS}
    (Fd : FunD K name qual params body scope [] [] f fd) (Sc : FnScope N ps scope) (len : ∀ evs h Q W, sp evs h Q W → evs.length = ps.length)
    (hbody : ∀ (cdv : Value) (A : Around) (outer : List Env) (s : Shared) (H : Hp) (E : XK) (W : EW), Room k (A.deeper (envOfC qual scope s.heap.objs.size f cdv)) → (A.deeper (envOfC qual scope s.heap.objs.size f cdv)).guards = some [] →
      Takes (cxOf (CX P w) P w K mg base N qual scope f cdv A outer s H E) (upX K W) → LSs (cxOf (CX P w) P w K mg base N qual scope f cdv A outer s H E) body (t W))
    (pure : ∀ evs h Q W, sp evs h Q W → ∀ mk, isF mk = true → t (fun C fs _ h' => h'[h.length]? = some mk ∧ W C fs h') (aN Q) (bJ N evs) (h ++ [mk])) :
    FnX P w K mg base (k + 1) f fd ps sp := by
  obtain ⟨oc, od, dV, kV, doc, pm, an, cdv, ct, osl, rfl, lk, hcd, _, _⟩ := Fd.ex
  refine ⟨len, fun A outer s H args us vs Q E hr hG e0 hb r q => ?_⟩
  obtain ⟨m, h, evs, Pk, Wk, R, re, sq, kq, kx⟩ := q
  have hl : vs.length = ps.length := by
    rw [← re.length]; exact len _ _ _ _ sq
  have keepB : ∀ b o, base.get? b = some o → s.heap.get? b = some o := fun b o z => (e0.bs b o z).1
  have inK := e0.mod.kin.keeps keepB
  refine codeAny_call_function hr.depth (inK _ _ lk) rfl Sc.co Sc.gen rfl (PySem.W.codeRec_of inK hcd) (hb _ _ _ _ ?_)
  refine wpAny_newFunctionEnv_cells Sc.kind (fun y hy => ?_) fun env he s1 x => ?_
  · rcases Sc.par y.1 (List.of_mem_zip hy).1 with z | z
    · exact .inl z
    · exact .inr ⟨z, PySem.W.cellsFrom_some _ _ _ (.inl z)⟩
  · subst he
    refine ⟨(e0.mod.nolimit.keeps keepB).keeps x.toInCall.keep, codeAny_func ?_⟩
    have I := inv_start (CX := CX P w) (P := P) (w := w) (K := K) (mg := mg) (base := base) (E := E) Sc hr.hd e0 hl r x
    have tk : Takes (cxOf (CX P w) P w K mg base N qual scope f cdv A outer s H E) (upX K fun C fs _ h' => h'[h.length]? = some (.mark m h.length H) ∧ Wk C fs h') :=
      (takes_of (X := cxOf (CX P w) P w K mg base N qual scope f cdv A outer s H E) rfl rfl rfl rfl).imp fun cls d σ H' ⟨m', env', h', C, fs, at_, e1, df, hmk, w'⟩ => by
        subst e1
        exact kx C fs h' w' m' H' d (at_.hp.marked hmk) at_.hp df
    have ht := hbody cdv A outer s H E _ (hr.deeper _) hG tk
    have at1 : At K (bJ N evs) (h ++ [EO.mark m h.length H]) m (start N vs) H := At.mark ⟨R, start_rel N re⟩
    have pu := pure evs h Pk Wk sq (.mark m h.length H) rfl
    have E0 : Ex K m h.length H m (h ++ [EO.mark m h.length H]).length H := Ex.mark
    have up1 : upS K (t fun C fs _ h' => h'[h.length]? = some (.mark m h.length H) ∧ Wk C fs h') { nx := fun _ H' => Q .non H', rt := Q } (start N vs) H :=
      ⟨m, bJ N evs, h ++ [EO.mark m h.length H], aN Pk, at1, pu, ⟨fun env' h' p m' H' σ' Ee a' => kq _ _ p m' H' _ (E0.trans Ee) a'.hp (by rw [aC]), fun v h' p m' H' x Ee R' r' => kq _ _ p m' H' x (E0.trans Ee) R' r', fun _ _ z => z.elim, fun _ _ z => z.elim⟩⟩
    have run := ht.pss.run [] s1 (start N vs) H { nx := fun _ H' => Q .non H', rt := Q } I up1
    refine wpAny_mono run (fun fl s' hs => ?_) fun e s' hs => hs
    match fl, hs with
    | .ret u, ⟨v, σ', H', J, rv, z⟩ => exact ⟨v, H', J.os, J.bare, J.base, J.hok, rv, z⟩
    | .next, ⟨σ', H', J, z⟩ => exact ⟨.non, H', J.os, J.bare, J.base, J.hok, rfl, z⟩
    | .brk, ⟨_, _, _, z⟩ => exact z.elim
    | .cont, ⟨_, _, _, z⟩ => exact z.elim
def outOf (D : Ends) (i : Nat) : Ends := { nx := fun σ H => D.nx (σ.set i none) H, rt := D.rt, bk := fun σ H => D.bk (σ.set i none) H, ct := fun σ H => D.ct (σ.set i none) H }
section
variable {X : Cx}
end
section
variable {K : PySem.W.Frag} {m m' : Nat → Addr} {n n' : Nat} {H H' : Hp} {h h' : EH}
theorem qZ.look : ∀ {fs : List (Str × EV)} {l : List (Str × V)} {f : Str} {x : EV}, qZ K m n H fs l → fs.lookup f = some x → ∃ v, l.lookup f = some v ∧ aC K m n H x v
  | [], _, _, _, _, e => nomatch e
  | (g, y) :: r, _, f, x, q, e => by
    obtain ⟨v, l', rfl, r1, r2⟩ := q
    by_cases hf : f = g
    · subst hf
      simp [List.lookup] at e ⊢
      subst e
      exact r1
    · have hb : (f == g) = false := by simpa using hf
      simp only [List.lookup, hb] at e ⊢
      exact qZ.look r2 e
end
section
variable {X : Cx}
end
def oexB (K : PySem.W.Frag) (C : Addr) : Bool := (match K.lookup C with
    | some ⟨.type "type", _, .cls cd, sl⟩ => (match cd.mro, sl.toList with
      | .ref C' :: bm, [_, _, _, _, some (.builtin n), _] => decide (C' = C) && (decide (n = "ValueError.__new__") && (cd.hasDict && (!cd.hasDel && HandSPX.refsVE bm)))
      | _, _ => false)
    | _ => false) && (decide (PySem.W.findIn K (.ref C) "__setattr__" = some (some (.builtin "object.__setattr__"))) && (decide (PySem.W.subIn K (.ref C) (.type "BaseException") = some true) && (decide (PySem.W.typeIn K (.ref C) = some (.type "type")) && PySem.W.keepIn K (.ref C))))
theorem ba2 {a b : Bool} (h : (a && b) = true) : a = true ∧ b = true := Bool.and_eq_true_iff.mp h
theorem oexB_ok {K : PySem.W.Frag} {C : Addr} (h : oexB K C = true) : OexC K C := by
  unfold oexB at h
  obtain ⟨h1, h⟩ := ba2 h
  obtain ⟨h2, h⟩ := ba2 h
  obtain ⟨h3, h⟩ := ba2 h
  obtain ⟨h4, h5⟩ := ba2 h
  refine ⟨?_, of_decide_eq_true h2, of_decide_eq_true h3, of_decide_eq_true h4, h5⟩
  split at h1
  · rename_i dd cd sl ho
    split at h1
    · rename_i C' bm k0 k1 k2 k3 n k5 hm hs
      obtain ⟨e1, h1⟩ := ba2 h1
      obtain ⟨e2, h1⟩ := ba2 h1
      obtain ⟨e3, h1⟩ := ba2 h1
      obtain ⟨e4, e5⟩ := ba2 h1
      have e1 := of_decide_eq_true e1
      have e2 := of_decide_eq_true e2
      subst e1 e2
      obtain ⟨nm, bs, mro, ns, qn, hd, sn, sub, ab, col, del⟩ := cd
      dsimp only at hm e3 e4
      subst hm e3
      have e4' : del = false := by simpa using e4
      subst e4'
      have hsl : sl = #[k0, k1, k2, k3, some (.builtin "ValueError.__new__"), k5] := by
        obtain ⟨l⟩ := sl
        simp only at hs
        rw [hs]
      subst hsl
      exact ⟨nm, qn, ns, bs, bm, sn, sub, ab, col, dd, k0, k1, k2, k3, k5, ho, e5⟩
    · cases h1
  · cases h1
def initBodyB (x f : Str) : List Stmt → Bool
  | [.Expr (.Call (.Attribute (.Call (.Name s _) [] [] _) i p2) [.Name x1 _] [] p4) _, .Assign [.Attribute (.Name s2 _) f2 _] (.Name x2 _) _] =>
    (p2.endLine == p4.line) && (decide (s = ("super" : Str)) && (decide (i = ("__init__" : Str)) && (decide (x1 = x) && (decide (s2 = ("self" : Str)) && (decide (f2 = f) && decide (x2 = x))))))
  | _ => false
theorem initBodyB_ok {x f : Str} {b : List Stmt} (h : initBodyB x f b = true) : InitBody x f b := by
  unfold initBodyB at h
  split at h
  · rename_i s p0 p1 i p2 x1 p3 p4 p5 s2 p6 f2 p7 x2 p8 p9
    obtain ⟨e0, h⟩ := ba2 h
    obtain ⟨e1, h⟩ := ba2 h
    obtain ⟨e2, h⟩ := ba2 h
    obtain ⟨e3, h⟩ := ba2 h
    obtain ⟨e4, h⟩ := ba2 h
    obtain ⟨e5, e6⟩ := ba2 h
    have e1 := of_decide_eq_true e1
    have e2 := of_decide_eq_true e2
    have e3 := of_decide_eq_true e3
    have e4 := of_decide_eq_true e4
    have e5 := of_decide_eq_true e5
    have e6 := of_decide_eq_true e6
    subst e1 e2 e3 e4 e5
    exact ⟨p0, p1, p2, p3, p4, p5, p6, p7, p8, p9, e0, by rw [e6]⟩
  · cases h
def paramsB (x : Str) : Arguments → Bool
  | ⟨[], [a1, a2], none, [], [], none, []⟩ => decide (a1.arg = ("self" : Str)) && decide (a2.arg = x)
  | _ => false
def scopeB (x : Str) (s : Scope) : Bool := decide (s.kind = .function) && (!s.isCoroutine && (!s.isGenerator && (decide (s.names.lookup ("super" : Str) = some .globalImplicit) && (decide (s.names.lookup ("__class__" : Str) = some .free) &&
  (decide (s.names.lookup ("self" : Str) = some .local) && (decide (s.names.lookup x = some .local) && s.names.all fun y => decide (y.2 ≠ .cell)))))))
def codeB (P : Program) (K : PySem.W.Frag) (cda : Addr) (q : Str) : Bool := PySem.W.codeIn K (.ref cda) q && (match K.lookup cda with
  | some ⟨_, _, .fields vs, _⟩ => (match (vs[2]? : Option Value) with
    | some (Value.str file _) => ((P.main.file : Str) == file)
    | _ => false)
  | _ => false)
def cellB (K : PySem.W.Frag) (C cc : Addr) : Bool := match K.lookup cc with
  | some ⟨_, _, .cell (some (.ref C')), _⟩ => decide (C' = C)
  | _ => false
def initFdB (P : Program) (K : PySem.W.Frag) (C : Addr) (x f : Str) : FuncData → Bool
  | ⟨_, q, ps, .stmts b, sc, gl, [(n, cc)], .none, _, _, _, _, .ref cda, _, bi⟩ =>
    paramsB x ps && (initBodyB x f b && (decide (gl = mainGlobals) && (decide (bi = builtinsNs) && (decide (n = ("__class__" : Str)) && (scopeB x sc && (codeB P K cda q && cellB K C cc))))))
  | _ => false
def initFnB (P : Program) (K : PySem.W.Frag) (C fI : Addr) (x f : Str) : Bool := !(x == ("self" : Str)) && (!(x == ("__debug__" : Str)) && (match K.lookup fI with
  | some ⟨_, _, .func fd, _⟩ => initFdB P K C x f fd
  | _ => false))
theorem initFnB_ok {P : Program} {K : PySem.W.Frag} {C fI : Addr} {x f : Str} (h : initFnB P K C fI x f = true) : InitFn P K C fI x f := by
  unfold initFnB at h
  obtain ⟨h1, h⟩ := ba2 h
  obtain ⟨h2, h⟩ := ba2 h
  refine ⟨?_, by simpa using h1, by simpa using h2⟩
  split at h
  · rename_i oc od fd osl lk
    unfold initFdB at h
    split at h
    · rename_i nm q ps b sc gl n cc kV doc pm an cda ct bi
      obtain ⟨a1, h⟩ := ba2 h
      obtain ⟨a2, h⟩ := ba2 h
      obtain ⟨a3, h⟩ := ba2 h
      obtain ⟨a4, h⟩ := ba2 h
      obtain ⟨a5, h⟩ := ba2 h
      obtain ⟨a6, h⟩ := ba2 h
      obtain ⟨a7, a8⟩ := ba2 h
      have a3 := of_decide_eq_true a3
      have a4 := of_decide_eq_true a4
      have a5 := of_decide_eq_true a5
      subst a3 a4 a5
      unfold paramsB at a1
      split at a1
      · rename_i g1 g2
        obtain ⟨b1, b2⟩ := ba2 a1
        unfold scopeB at a6
        obtain ⟨c1, a6⟩ := ba2 a6
        obtain ⟨c2, a6⟩ := ba2 a6
        obtain ⟨c3, a6⟩ := ba2 a6
        obtain ⟨c4, a6⟩ := ba2 a6
        obtain ⟨c5, a6⟩ := ba2 a6
        obtain ⟨c6, a6⟩ := ba2 a6
        obtain ⟨c7, c8⟩ := ba2 a6
        unfold codeB at a7
        obtain ⟨d1, d2⟩ := ba2 a7
        refine ⟨oc, od, osl, nm, q, g1, g2, b, sc, cc, cda, kV, doc, pm, ct, an, lk, of_decide_eq_true b1, of_decide_eq_true b2, initBodyB_ok a2, d1, of_decide_eq_true c1, by simpa using c2, by simpa using c3, of_decide_eq_true c4, of_decide_eq_true c5, of_decide_eq_true c6, of_decide_eq_true c7,
          fun y hy => of_decide_eq_true (List.all_eq_true.mp c8 y hy), ?_, ?_⟩
        · split at d2
          · rename_i ccl cdd vs ccs lkc
            split at d2
            · rename_i file tf hv
              exact ⟨ccl, cdd, vs, ccs, file, tf, lkc, hv, d2⟩
            · cases d2
          · cases d2
        · unfold cellB at a8
          split at a8
          · rename_i cl cld C' csl lkc
            have e := of_decide_eq_true a8
            subst e
            exact ⟨cl, cld, csl, lkc⟩
          · cases a8
      · cases a1
    · cases h
  · cases h
def excB (P : Program) (K : PySem.W.Frag) (C : Addr) (x f : Str) : Bool := oexB K C && (xfB K C && (decide (PySem.W.findIn K (.ref C) f = some none) && ((match PySem.W.findIn K (.ref C) "__init__" with
    | some (some (.ref fI)) => decide (PySem.W.typeIn K (.ref fI) = some (.type "function")) && initFnB P K C fI x f
    | _ => false) && (!(P.main.scope.names.lookup ("super" : Str)).isSome && (decide (PySem.W.nsIn K mainGlobals "super" = some none) && (decide (PySem.W.mroIn K C (.ref C) = some true) &&
  (decide (PySem.W.ks_superIn K C C "__init__" = some (some (.builtin "ValueError.__init__"))) && (decide (PySem.W.subIn K (.ref C) (.type "ValueError") = some true) && (decide (PySem.W.nsIn K cStatics "thirdparty.any" = some none) &&
    PySem.W.excInitIn K C [.type "ValueError", .type "Exception", .type "BaseException", .type "object"] "ValueError.__new__")))))))))
theorem excB_ok {P : Program} {K : PySem.W.Frag} {C : Addr} {x f : Str} (h : excB P K C x f = true) : ExcC P K C x f := by
  unfold excB at h
  obtain ⟨h1, h⟩ := ba2 h
  obtain ⟨h2, h⟩ := ba2 h
  obtain ⟨h3, h⟩ := ba2 h
  obtain ⟨h4, h⟩ := ba2 h
  obtain ⟨h5, h⟩ := ba2 h
  obtain ⟨h6, h⟩ := ba2 h
  obtain ⟨h7, h⟩ := ba2 h
  obtain ⟨h8, h⟩ := ba2 h
  obtain ⟨h9, h⟩ := ba2 h
  obtain ⟨h10, h11⟩ := ba2 h
  refine ⟨oexB_ok h1, xfB_ok h2, of_decide_eq_true h3, ?_, by simpa using h5, of_decide_eq_true h6, of_decide_eq_true h7, of_decide_eq_true h8, of_decide_eq_true h9, of_decide_eq_true h10, h11⟩
  split at h4
  · rename_i fI e
    obtain ⟨b1, b2⟩ := ba2 h4
    exact ⟨fI, e, of_decide_eq_true b1, initFnB_ok b2⟩
  · cases h4
section
variable {X : Cx}
end
section
variable {K : PySem.W.Frag} {m : Nat → Addr} {h : EH} {H : Hp}
end
section
variable {K : PySem.W.Frag} {m : Nat → Addr} {h : EH} {H : Hp}
end
section
variable {M : Model} {A : Around} {E : Value → Shared → Prop} {s : Shared} {env : Env}
end
section
variable {X : Cx} {pos pos' apos : Pos} {o e : Expr} {es : List Expr} {to te : LT} {t : LA} {W : EW}
end
end Y
namespace PySem
open Sem (wp)
set_option maxHeartbeats 1000000 in
theorem meets_enumerate_new1 {v : Value} {o : Obj} {H : Heap → Prop} (B : Begins v o H) :
    Meets (Builtin.«enumerate.__new__» ⟨[.type "enumerate", v], []⟩) (fun _ R s => H s.heap ∧
      R (.ok (.ret (.ref (s.heap.push o).objs.size))) { s with heap := (s.heap.push o).push { cls := .type "enumerate", data := .fields #[.none, .bool false, .ref s.heap.objs.size, rawInt 0, .none, .none] } }) :=
  .of_wp fun prog w A R s h => by
    obtain ⟨hp, g, d, tk, os⟩ := s; obtain ⟨h1, h⟩ := h
    have hsub := sub_enumerate
    have q1 : ∀ {A' : Around} {E : Value → Shared → Prop} {Q : Value → Shared → Prop}, Q (.ref hp.objs.size) ⟨hp.push o, g, d, tk, os⟩ → wpAny (model prog w) A' (pyIter v) Q E ⟨hp, g, d, tk, os⟩ :=
      fun q => B.iter prog w _ _ ⟨hp, g, d, tk, os⟩ _ h1 q
    wp_walk using q1
    refine wpAny_stack_any fun st => wpAny_pure ?_
    split
    · rename_i c _ _ _ _ _
      cases (c == Value.type "enumerate")
      · wp_walk using q1
        exact ⟨_, rfl, h⟩
      · wp_walk using q1
        exact ⟨_, rfl, h⟩
    · wp_walk using q1
      exact ⟨_, rfl, h⟩
section
variable {prog : Program} {w : World} {A : Around} {E : Value → Shared → Prop} {s : Shared}
end
end PySem
namespace Y
open PySem PySem.Spec PyProof.Rows L2
section
variable {X : Cx}
end
end Y
namespace Y
open PySem PySem.Spec PyProof.Rows L2
set_option maxHeartbeats 4000000 in
theorem tuple_mul1 (l : Addr) (items : Array Value) (n : Nat) (dd : Option Addr) (sl : Array (Option Value)) (u : Tok) :
    Meets (Builtin.«tuple.__mul__» ⟨[.ref l, .int 1 u], []⟩) (fun _ R s => s.heap.get? l = some { cls := .type "tuple", dict := dd, data := .seq items n, slots := sl } ∧
      R (.ok (.ret (Value.ref l))) s) :=
  .of_wp fun prog w A R s h => by
    obtain ⟨hp, g, d, tk, os⟩ := s
    obtain ⟨hl, h⟩ := h
    have f1 := AutoSeq1.idx_int
    have c0 : (decide ((1 : Int) < -(2 ^ 63)) || decide ((1 : Int) ≥ 2 ^ 63)) = false := by decide
    have c1 : (items.isEmpty || ((1 : Int) == 1)) = true := by simp
    wp_walk using wpAny_loadPart' hl
    repeat (first
      | (refine wpAny_ite_false (decide_eq_false (by rw [c0]; exact Bool.false_ne_true)) ?_; wp_walk using wpAny_loadPart' hl)
      | (refine wpAny_ite_true (decide_eq_true (by rw [c1])) ?_; wp_walk using wpAny_loadPart' hl))
    exact ⟨_, rfl, h⟩
set_option maxHeartbeats 4000000 in
theorem tuple_mul0 (l : Addr) (items : Array Value) (n : Nat) (dd : Option Addr) (sl : Array (Option Value)) (u : Tok) (c : items.isEmpty = false) :
    Meets (Builtin.«tuple.__mul__» ⟨[.ref l, .int 0 u], []⟩) (fun _ R s => s.heap.get? l = some { cls := .type "tuple", dict := dd, data := .seq items n, slots := sl } ∧
      R (.ok (.ret (Value.ref s.heap.objs.size))) { s with heap := s.heap.push { cls := Value.type "tuple", data := Data.seq #[] }, toks := s.toks }) :=
  .of_wp fun prog w A R s h => by
    obtain ⟨hp, g, d, tk, os⟩ := s
    obtain ⟨hl, h⟩ := h
    have f1 := AutoSeq1.idx_int
    have c0 : (decide ((0 : Int) < -(2 ^ 63)) || decide ((0 : Int) ≥ 2 ^ 63)) = false := by decide
    have c1 : (items.isEmpty || ((0 : Int) == 1)) = false := by rw [c]; rfl
    have c2 : (decide ((0 : Int) ≤ 0) || items.isEmpty) = true := by simp
    wp_walk using wpAny_loadPart' hl
    repeat (first
      | (refine wpAny_ite_false (decide_eq_false (by rw [c0]; exact Bool.false_ne_true)) ?_; wp_walk using wpAny_loadPart' hl)
      | (refine wpAny_ite_false (decide_eq_false (by rw [c1]; exact Bool.false_ne_true)) ?_; wp_walk using wpAny_loadPart' hl)
      | (refine wpAny_ite_true (decide_eq_true (by rw [c2])) ?_; wp_walk using wpAny_loadPart' hl))
    exact ⟨_, rfl, h⟩
section
variable {X : Cx}
end
end Y
namespace Y
open PySem PySem.Spec PyProof.Rows L2
def obsZ (n : Nat) (fa : List He.Fa) (fn : List He.DefD) (ts : List He.Tab) (ex : PySem.W.Frag → Bool) (g : Addr → Option Obj) : He.AlX := (He.obsT fa fn ts (He.frT g (List.range n)), ex (He.frT g (List.range n)))
def hookZ (n : Nat) (fa : List He.Fa) (fn : List He.DefD) (ts : List He.Tab) (ex : PySem.W.Frag → Bool) : PySem.W.Hook where
  α := He.AlX
  obs := fun s => obsZ n fa fn ts ex s.heap.get?
  val := fun w => He.valX fn ts w
  says := fun w h => ∃ K : PySem.W.Frag, K.In h ∧ He.SaysX fa fn ts [] ex w h K
  of := fun w s e => ⟨He.frT s.heap.get? (List.range n), He.frT_in, { t := congrArg (fun z : He.AlX => z.1) e, more := congrArg (fun z : He.AlX => z.2) e, hd := fun p hp => by simp at hp, out := fun p hp => by simp at hp, empty := fun p hp => by simp at hp }⟩
  keeps := fun _ _ _ ⟨K, hK, c⟩ k => ⟨K, PySem.W.Frag.In.keeps hK k, ⟨c.t, c.more, c.hd, c.out, fun p hp => k _ _ (c.empty p hp)⟩⟩
theorem obsZ_eq {n : Nat} {fa : List He.Fa} {fn : List He.DefD} {ts : List He.Tab} {ex : PySem.W.Frag → Bool} {g : Addr → Option Obj} {s : Shared} (h : ∀ a, g a = s.heap.get? a) : obsZ n fa fn ts ex g = (hookZ n fa fn ts ex).obs s := by
  have e : g = s.heap.get? := funext h
  rw [e] <;> rfl
end Y
namespace Y
open PySem PySem.Spec PyProof.Rows L2
open AutoSeq1 (wpAny_loadPart')
section
variable {X : Cx}
def rReprT (K : PySem.W.Frag) : List V → Hp → VK → Prop := fun xs H Q => ∃ a ys ds, xs = [.ref a] ∧ SqT K H a ys ∧ Paired (DpE K H) ys ds ∧ PyData.showable (.tuple ds) = true ∧ (PyData.shown (.tuple ds)).length ≤ sizeLine ∧ Q (.str (PyData.shown (.tuple ds))) H
def reprW : LC := fun vs h P => match vs with
  | [v] => (∃ xs ds, v = .tup xs ∧ DatEs h xs ds ∧ PyData.showable (.tuple ds) = true ∧ (PyData.shown (.tuple ds)).length ≤ sizeLine ∧ P (.str (PyData.shown (.tuple ds)).cps.toList) h) ∨ reprX [v] h P
  | _ => False
theorem call_reprT (hG : X.A.guards = some []) (hu : X.A.units + 64 < cLine) : CallR X (.builtin "repr") (rReprT X.K) := by
  intro pins s σ H xs us Q I r q
  obtain ⟨a, ys, ds, rfl, hT, b, sd, zd, q⟩ := q
  obtain ⟨u, rfl, ru⟩ := vals1 r
  cases (show u = Value.ref a from ru)
  obtain ⟨its, rv, ⟨o, ho, hc, n, hda⟩, hz⟩ := I.tuple hT
  have dd := dpEs_depth b
  have zd' : (tupleText (PyData.shownAll ds)).length ≤ sizeLine := by simpa only [PyData.shown] using zd
  obtain ⟨as, bs, rd, hb, hk⟩ := reprAll I b rv (by simpa [PyData.showable] using sd) (fun t ht => Nat.le_trans (tupleText_mem_le ht) zd')
  have rda : Reads s.heap (.ref a) (.tuple ds) as := .tuple ho hc hda (by simpa using rd)
  have hna : a ∉ bs := not_mem_of_deeper rda (by simp only [PyData.depth]; omega) hb
  simp only [PyData.shown] at q
  refine call_repr_slot (T := "tuple") (idr := "tuple.__repr__") (by omega) ⟨o, ho, hc⟩ F.slot_tuple_repr ?_
  exact call_tuple_reprK ho hc hda hna (by simpa using hk) hG (fun b _ => Clear.nil b) (by show X.A.units + 1 + (_ + 1) < cLine; omega) (fun _ _ e => e)
    (fun h' u tk kk => ⟨_, _, rfl, ⟨.str _, H, I.kept kk, ⟨_, rfl⟩, q⟩⟩) zd'
theorem lc_reprW (hG : X.A.guards = some []) (hu : X.A.units + 64 < cLine) : nH X (.builtin "repr") reprW := by
  obtain ⟨r0, h1, h2⟩ := lc_reprX (X := X) hG hu
  refine ⟨fun xs H Q => rReprT X.K xs H Q ∨ r0 xs H Q, ?_, ?_⟩
  · intro pins s σ H xs us Q I r q
    rcases q with q | q
    · exact call_reprT hG hu pins s σ H xs us Q I r q
    · exact h1 pins s σ H xs us Q I r q
  · intro m h H vs xs P Q R rr q k
    unfold reprW at q
    split at q
    · rename_i v
      rcases q with ⟨ys, ds, rfl, dd, sd, zd, p⟩ | q
      · obtain ⟨x, rfl, rx⟩ := rr.one_inv
        rw [aC] at rx
        obtain ⟨a, us, rfl, ha, rs⟩ := rx
        exact .inl ⟨a, us, ds, rfl, SqT.of ha, dd.dp R rs, sd, zd, k.same R p (by rw [aC])⟩
      · exact .inr (h2 m h H [v] xs P Q R rr q k)
    · exact q.elim
end
end Y
namespace Y
open PySem PySem.Spec PyProof.Rows L2
section
variable {X : Cx} {W : EW}
end
section
variable {X : Cx}
end
section
variable {K : PySem.W.Frag} {m' : Nat → Addr} {H' : Hp} {h' : EH}
end
section
variable {X : Cx}
end
section
variable {X : Cx} {a b : Expr} {t : TA} {ta : LA} {p1 p2 p3 pos : Pos}
end
section
variable {X : Cx} {a b : Expr} {ta : LA} {p1 p2 p3 pos : Pos}
end
theorem vals_ints : ∀ {ss : List Int} {us : List Value}, Vals (ss.map V.int) us → IntsAre us ss
  | [], us, r => by rw [List.map_nil] at r; cases r; exact .nil
  | s :: ss, us, r => by
    rw [List.map_cons] at r
    cases r with
    | cons h t =>
      obtain ⟨k, rfl⟩ := h
      exact .cons _ _ (vals_ints t)
def inTA (neg : Bool) : LO := fun v w h P => ∃ d ds, Dat h 60 v d ∧ Dat h 60 w (.tuple ds) ∧ PySem.SeqAt.shaped d = true ∧ PySem.SeqAt.shaped (.tuple ds) = true ∧ P (.bl (neg ^^ ds.any fun z => PyData.eqv z d)) h
def rInTD (neg : Bool) (K : PySem.W.Frag) : R2 := fun x y H Q => ∃ d ds, Dp K H x d ∧ Dp K H y (.tuple ds) ∧ SeqAt.shaped d = true ∧ SeqAt.shaped (.tuple ds) = true ∧ Q (.bl (neg ^^ ds.any fun z => PyData.eqv z d)) H
section
variable {X : Cx}
theorem op_inTD (hu : X.A.units + 65 < cLine) : OpR X (compareOp .In) (rInTD false X.K) := by
  intro pins s σ H x y v u Q I rx ry h
  obtain ⟨d, ds, hd, he, sd, se, q⟩ := h
  obtain ⟨as, r1⟩ := Dp.reads I d x v hd rx
  obtain ⟨bs, r2⟩ := Dp.reads I (.tuple ds) y u he ry
  exact SeqAt.in_tuple_reads r2 r1 (SeqAt.canLay_of_shaped se) (SeqAt.canLay_of_shaped sd) (room_in_shaped sd hu) ⟨.bl _, H, I, rfl, by simpa using q⟩
theorem inTA_sim {neg : Bool} {m : Nat → Addr} {h : EH} {H : Hp} {v w : EV} {x y : V} {P : EK} {Q : VK} (R : cC X.K m h H) (rx : aC X.K m h.length H v x) (ry : aC X.K m h.length H w y) (q : inTA neg v w h P) (k : Kon X.K m h.length H P Q) : rInTD neg X.K x y H Q := by
  obtain ⟨d, ds, d1, d2, s1, s2, q⟩ := q
  exact ⟨d, ds, Dat.dp R _ _ _ _ d1 rx, Dat.dp R _ _ _ _ d2 ry, s1, s2, k.same R q (by rw [aC])⟩
theorem lo_inT (hu : X.A.units + 65 < cLine) : oA X (compareOp .In) (inTA false) :=
  ⟨_, op_inTD hu, fun m h H v w x y P Q R rx ry q k => inTA_sim R rx ry q k⟩
end
section
variable {X : Cx}
end
section
variable {K : PySem.W.Frag} {m : Nat → Addr} {H : Hp} {h : EH}
end
section
variable {X : Cx} {pins : List (Addr × Obj)} {σ : L2.St} {H : Hp} {s : Shared}
end
section
variable {X : Cx}
end
section
variable {X : Cx}
def rL0 (K : PySem.W.Frag) : R2 := fun x y H Q => ∃ a b xs, x = .ref a ∧ y = .ref b ∧ SqL K H a xs ∧ SqL K H b [] ∧ xs ≠ [] ∧ Q (.bl true) H
theorem op_l0 (hu : X.A.units + 64 < cLine) : OpR X (compareOp .NotEq) (rL0 X.K) := by
  intro pins s σ H x y v u Q I rx ry h
  obtain ⟨a, b, xs, rfl, rfl, h1, h2, ne, q⟩ := h
  cases (show v = Value.ref a from rx)
  cases (show u = Value.ref b from ry)
  obtain ⟨us, r1, ⟨o1, n1, g1, c1, _, d1⟩, _⟩ := I.list h1
  obtain ⟨vs, r2, ⟨o2, n2, g2, c2, _, d2⟩, _⟩ := I.list h2
  cases r2
  refine PySem.SeqAt.RcNeAt.lists_lengths ⟨o1, g1, c1, n1, d1⟩ ⟨o2, g2, c2, n2, d2⟩ ?_ (by omega) X.prog X.w _ _ ⟨.bl _, H, I, rfl, q⟩
  cases r1
  · exact absurd rfl ne
  · simp
def neL0 : LO := fun v w h P => (∃ r r2 xs, v = .ref r ∧ w = .ref r2 ∧ h[r]? = some (.lst xs) ∧ h[r2]? = some (.lst []) ∧ xs ≠ [] ∧ P (.bl true) h) ∨ eqE true v w h P
theorem lo_neL0 (hu : X.A.units + 64 < cLine) : oA X (compareOp .NotEq) neL0 := by
  obtain ⟨r, h1, h2⟩ := t7 (X := X) hu
  refine ⟨_, OpR.or (op_l0 hu) h1, ?_⟩
  intro m h H v w x y P Q R rx ry q k
  rcases q with ⟨r, r2, xs, rfl, rfl, e1, e2, ne, q⟩ | q
  · rw [aC] at rx
    rw [aC] at ry
    obtain ⟨_, rfl⟩ := rx
    obtain ⟨_, rfl⟩ := ry
    obtain ⟨us, a1, rs⟩ := R.obj _ _ e1
    obtain ⟨vs, a2, rt⟩ := R.obj _ _ e2
    rw [aO] at rt
    subst rt
    refine .inl ⟨_, _, us, rfl, rfl, SqL.of a1, SqL.of a2, fun z => ?_, k.same R q (by rw [aC])⟩
    subst z
    have := rs.length
    exact ne (List.length_eq_zero_iff.mp this)
  · exact .inr (h2 m h H v w x y P Q R rx ry q k)
end
def popE0 : LM := fun v vs h P => match vs with
  | [] => jB v h fun r xs => ∃ x, xs[xs.length - 1]? = some x ∧ P x (h.set r (.lst xs.dropLast))
  | _ => False
theorem aO.dropL58 {K : PySem.W.Frag} {m : Nat → Addr} {n : Nat} {H : Hp} {xs : List EV} {us : List V} (r : aO K m n H xs us) : aO K m n H xs.dropLast us.dropLast := by
  rw [List.dropLast_eq_take, List.dropLast_eq_take, r.length]
  exact r.take _
theorem lm_pop0 {K : PySem.W.Frag} : LMl K "list" rPop popE0 := by
  intro m h H v x vs xs P Q R rx rv q k
  unfold popE0 at q
  split at q
  · rw [aO] at rv
    subst rv
    obtain ⟨i, es, us, e, rfl, a, r, y, h4, q⟩ := tX R rx q
    obtain ⟨w, hw, rw'⟩ := r.at h4
    exact ⟨_, us, w, rfl, rfl, a, by rw [← r.length]; exact hw, k.upd R e q rw' r.dropL58⟩
  · exact q.elim
section
variable {X : Cx} {pos p : Pos} {e : Expr} {es : List Expr} {t : LA} {W : EW} {k : Nat} {g C : Addr} {fd : FuncData} {ps : List Str} {sp : LSpX} {x : Str}
end
def SysK (K : PySem.W.Frag) : Prop := ∃ o, K.lookup sysModules = some o ∧ o.cls = .type "dict"
def sysB (K : PySem.W.Frag) : Bool := match K.lookup sysModules with
  | some o => match o.cls with
    | .type t => decide (t = "dict")
    | _ => false
  | none => false
theorem sysB_ok {K : PySem.W.Frag} (h : sysB K = true) : SysK K := by
  unfold sysB at h
  split at h
  · rename_i o e
    split at h
    · rename_i t e2
      have := of_decide_eq_true h
      subst this
      exact ⟨o, e, e2⟩
    · cases h
  · cases h
def tO : EV → PyData → Prop
  | .non, d => d = .none
  | .bl b, d => d = .bool b
  | .int i, d => d = .int i
  | .str s, d => d = .str (S s)
  | _, _ => False
def keyE : L2.Key → EV
  | .inl i => .int i
  | .inr x => .str x.cps.toList
def DatD (h : EH) : Nat → EV → PyData → Prop
  | 0, v, d => tO v d
  | n + 1, v, d => tO v d ∨ (∃ xs ds, (v = .tup xs ∨ v = .ktup xs) ∧ d = .tuple ds ∧ Paired (DatD h n) xs ds) ∨ (∃ r xs ds, v = .ref r ∧ h[r]? = some (.lst xs) ∧ d = .list ds ∧ Paired (DatD h n) xs ds) ∨
    (∃ r kvs ps, v = .ref r ∧ h[r]? = some (.dic kvs) ∧ d = dicD ps ∧ Paired (fun (p : EV × EV) (q : L2.Key × PyData) => p.1 = keyE q.1 ∧ DatD h n p.2 q.2) kvs ps)
def LeafP : V → PyData → Prop
  | .non, d => d = .none
  | .bl b, d => d = .bool b
  | .int i, d => d = .int i
  | .str s, d => d = .str s
  | _, _ => False
def DpD (K : PySem.W.Frag) (H : Hp) : Nat → V → PyData → Prop
  | 0, v, d => LeafP v d
  | n + 1, v, d => LeafP v d ∨ (∃ a xs ds, v = .ref a ∧ SqT K H a xs ∧ d = .tuple ds ∧ Paired (DpD K H n) xs ds) ∨ (∃ a xs ds, v = .ref a ∧ SqL K H a xs ∧ d = .list ds ∧ Paired (DpD K H n) xs ds) ∨
    (∃ a l ps, v = .ref a ∧ H a = some (.dK l) ∧ d = dicD ps ∧ Paired (fun (p : L2.Key × V) (q : L2.Key × PyData) => p.1 = q.1 ∧ DpD K H n p.2 q.2) l ps)
section
variable {K : PySem.W.Frag} {m : Nat → Addr} {H : Hp} {h : EH}
theorem tO.dp {v : EV} {x : V} {d : PyData} (a : tO v d) (r : aC K m h.length H v x) : LeafP x d := by
  cases v <;> first
    | exact a.elim
    | (rw [aC] at r; subst r; exact a)
theorem pairs_dp {n : Nat} (ih : ∀ (v : EV) (x : V) (d : PyData), DatD h n v d → aC K m h.length H v x → DpD K H n x d) : ∀ {vs : List EV} {xs : List V} {ds : List PyData}, Paired (DatD h n) vs ds → aO K m h.length H vs xs → Paired (DpD K H n) xs ds
  | _, _, _, .nil, r => by rw [aO] at r; subst r; exact .nil
  | _, _, _, .cons a b, r => by
    rw [aO] at r
    obtain ⟨v, l, rfl, r1, r2⟩ := r
    exact .cons (ih _ _ _ a r1) (pairs_dp ih b r2)
theorem kv_key {k : L2.Key} {k2 : L2.Key} (r : aC K m h.length H (keyE k) (kV k2)) : k2 = k := by
  cases k with
  | inl i =>
    unfold keyE at r
    rw [aC] at r
    exact kV_int r
  | inr x =>
    unfold keyE at r
    rw [aC] at r
    exact kV_str r
theorem rows_dp {n : Nat} (ih : ∀ (v : EV) (x : V) (d : PyData), DatD h n v d → aC K m h.length H v x → DpD K H n x d) : ∀ {kvs : List (EV × EV)} {l : List (L2.Key × V)} {ps : List (L2.Key × PyData)}, Paired (fun (p : EV × EV) (q : L2.Key × PyData) => p.1 = keyE q.1 ∧ DatD h n p.2 q.2) kvs ps → bH K m h.length H kvs l →
    Paired (fun (p : L2.Key × V) (q : L2.Key × PyData) => p.1 = q.1 ∧ DpD K H n p.2 q.2) l ps
  | _, _, _, .nil, r => by
    have r' : _ = [] := r
    subst r'; exact .nil
  | _, _, _, .cons (a := p) (b := q) a b, r => by
    obtain ⟨x, y⟩ := p
    obtain ⟨k', v, l', rfl, rk, rv, rr⟩ := r
    obtain ⟨a1, a2⟩ := a
    dsimp only at a1
    subst a1
    exact .cons ⟨kv_key rk, ih _ _ _ a2 rv⟩ (rows_dp ih b rr)
theorem DatD.dp (R : cC K m h H) : ∀ (n : Nat) (v : EV) (x : V) (d : PyData), DatD h n v d → aC K m h.length H v x → DpD K H n x d
  | 0, v, x, d, a, r => tO.dp (h := h) a r
  | n + 1, v, x, d, a, r => by
    rcases a with a | ⟨xs, ds, ev, rfl, p⟩ | ⟨i, xs, ds, rfl, e, rfl, p⟩ | ⟨i, kvs, ps, rfl, e, rfl, p⟩
    · exact .inl (tO.dp (h := h) a r)
    · refine .inr (.inl ?_)
      rcases ev with rfl | rfl
      · rw [aC] at r
        obtain ⟨a, us, rfl, ha, rs⟩ := r
        exact ⟨a, us, ds, rfl, SqT.of ha, rfl, pairs_dp (DatD.dp R n) p rs⟩
      · rw [aC] at r
        obtain ⟨a, us, rfl, ha, rs⟩ := r
        exact ⟨a, us, ds, rfl, ha, rfl, pairs_dp (DatD.dp R n) p rs⟩
    · rw [aC] at r
      obtain ⟨_, rfl⟩ := r
      obtain ⟨vs, hv, t⟩ := R.obj _ _ e
      exact .inr (.inr (.inl ⟨_, vs, ds, rfl, SqL.of hv, rfl, pairs_dp (DatD.dp R n) p t⟩))
    · rw [aC] at r
      obtain ⟨_, rfl⟩ := r
      obtain ⟨l, hl, rl⟩ := R.obj _ _ e
      exact .inr (.inr (.inr ⟨_, l, ps, rfl, hl, rfl, rows_dp (DatD.dp R n) p rl⟩))
end
section
variable {X : Cx} {pins : List (Addr × Obj)} {σ : L2.St} {H : Hp} {s : Shared}
theorem LeafP.reads {v : V} {u : Value} {d : PyData} (a : LeafP v d) (r : RelV v u) : Reads s.heap u d [] := by
  cases v with
  | non => cases r; have a' : d = .none := a; subst a'; exact .none
  | bl b => cases r; have a' : d = .bool b := a; subst a'; exact .bool b
  | int i => obtain ⟨t, rfl⟩ := r; have a' : d = .int i := a; subst a'; exact .int i t
  | str x => obtain ⟨t, rfl⟩ := r; have a' : d = .str x := a; subst a'; exact .str x t
  | _ => exact a.elim
theorem sys_lst (S : SysK X.K) (I : Inv X pins σ H s) {a : Addr} {xs : List V} (h : SqL X.K H a xs) : sysModules ≠ a := by
  rintro rfl
  obtain ⟨o, ho, hc⟩ := S
  have hb := I.ok.mod.kin _ _ ho
  rcases h with h | ⟨o2, its, n, h1, h2, _⟩
  · have fr := (I.bs _ _ hb).2
    rcases h with h | ⟨ob, h⟩
    · rw [fr] at h; cases h
    · rw [fr] at h; cases h
  · rw [ho] at h1
    cases h1
    rw [hc] at h2
    simp at h2
theorem sys_dic (I : Inv X pins σ H s) {a : Addr} {l : List (L2.Key × V)} (e : H a = some (.dK l)) : sysModules ≠ a := by
  rintro rfl
  obtain ⟨_, sm, _⟩ := (show ObjOk X.prog X.w H s.heap _ (.dK _) from I.hok _ _ e)
  simp at sm
theorem pairs_reads {n : Nat} (ih : ∀ (v : V) (u : Value) (d : PyData), DpD X.K H n v d → RelV v u → ∃ as, Reads s.heap u d as ∧ sysModules ∉ as) : ∀ {xs : List V} {ds : List PyData} {us : List Value}, Paired (DpD X.K H n) xs ds → Vals xs us → ∃ as, ReadsAll s.heap us ds as ∧ sysModules ∉ as
  | _, _, _, .nil, r => by cases r; exact ⟨[], .nil, by simp⟩
  | _, _, _, .cons a b, r => by
    cases r with
    | cons r1 r2 =>
      obtain ⟨as, rd, h1⟩ := ih _ _ _ a r1
      obtain ⟨bs, rd2, h2⟩ := pairs_reads ih b r2
      exact ⟨_, .cons rd rd2, fun z => (List.mem_append.mp z).elim h1 h2⟩
theorem rows_reads {n : Nat} (ih : ∀ (v : V) (u : Value) (d : PyData), DpD X.K H n v d → RelV v u → ∃ as, Reads s.heap u d as ∧ sysModules ∉ as) : ∀ {l : List (L2.Key × V)} {ps : List (L2.Key × PyData)} {vs : List (L2.Key × Value)} {es : List DictEntry}, Paired (fun (p : L2.Key × V) (q : L2.Key × PyData) => p.1 = q.1 ∧ DpD X.K H n p.2 q.2) l ps → KV l vs → Pairs (mixKind X.prog X.w) es vs →
    ReadsAll s.heap (es.map (·.key)) (ps.map fun p => kD p.1) [] ∧ ∃ bs, ReadsAll s.heap (es.map (·.val)) (ps.map (·.2)) bs ∧ sysModules ∉ bs
  | _, _, _, _, .nil, kv, pr => by
    cases kv
    cases pr
    exact ⟨.nil, [], .nil, by simp⟩
  | _, _, _, _, .cons a b, kv, pr => by
    cases kv with
    | cons k1 k2 =>
      cases pr with
      | cons q1 q2 p2 =>
        obtain ⟨i1, bs, i2, i3⟩ := rows_reads ih b k2 p2
        obtain ⟨e1, d1⟩ := a
        obtain ⟨e2, r2⟩ := k1
        obtain ⟨as, rd, h1⟩ := ih _ _ _ d1 r2
        refine ⟨?_, _, ?_, fun z => (List.mem_append.mp z).elim h1 i3⟩
        · refine ReadsAll.cons (as := []) (bs := []) ?_ i1
          rcases keyIs_shape (k := _) (v := _) q1 with ⟨i, t, hk, hv⟩ | ⟨x, t, hk, hv⟩
          · dsimp only; rw [hv, ← e1, e2, hk]; exact .int i t
          · dsimp only; rw [hv, ← e1, e2, hk]; exact .str x t
        · refine ReadsAll.cons ?_ i2
          dsimp only; rw [q2]; exact rd
theorem DpD.reads (S : SysK X.K) (I : Inv X pins σ H s) : ∀ (n : Nat) (v : V) (u : Value) (d : PyData), DpD X.K H n v d → RelV v u → ∃ as, Reads s.heap u d as ∧ sysModules ∉ as
  | 0, v, u, d, a, r => ⟨[], LeafP.reads a r, by simp⟩
  | n + 1, v, u, d, a, r => by
    rcases a with a | ⟨a, xs, ds, rfl, ht, rfl, p⟩ | ⟨a, xs, ds, rfl, hl, rfl, p⟩ | ⟨a, l, ps, rfl, e, rfl, p⟩
    · exact ⟨[], LeafP.reads a r, by simp⟩
    · cases (show u = Value.ref _ from r)
      obtain ⟨its, rv, ⟨o, ho, hc, k, hda⟩, hz⟩ := I.tuple ht
      obtain ⟨as, rd, hs⟩ := pairs_reads (DpD.reads S I n) p rv
      exact ⟨_, .tuple ho hc hda (by simpa using rd), hs⟩
    · cases (show u = Value.ref _ from r)
      obtain ⟨its, rv, ⟨o, k, ho, hc, hdt, hda⟩, hz⟩ := I.list hl
      obtain ⟨as, rd, hs⟩ := pairs_reads (DpD.reads S I n) p rv
      exact ⟨_, .list ho hc hda (by simpa using rd), fun z => (List.mem_cons.mp z).elim (sys_lst S I hl) hs⟩
    · cases (show u = Value.ref _ from r)
      have ne := sys_dic I e
      obtain ⟨_, sm, vs, kv, o, es, ep, h1, h2, h3, _, hp, _⟩ := (show ObjOk X.prog X.w H s.heap _ (.dK _) from I.hok _ _ e)
      obtain ⟨i1, bs, i2, i3⟩ := rows_reads (DpD.reads S I n) p kv hp
      refine ⟨_, .dict h1 h2.1 h3 (by rw [List.map_map]; exact i1) (by rw [List.map_map]; exact i2), fun z => ?_⟩
      simp only [List.cons_append, List.nil_append] at z
      exact (List.mem_cons.mp z).elim ne i3
theorem DpD.depth : ∀ (n : Nat) (v : V) (d : PyData), DpD X.K H n v d → d.depth ≤ n + 1 := by
  intro n
  induction n with
  | zero =>
    intro v d a
    cases v <;> first | exact a.elim | (have a' : d = _ := a; subst a'; simp [PyData.depth])
  | succ n ih =>
    intro v d a
    have all : ∀ {xs : List V} {ds : List PyData}, Paired (DpD X.K H n) xs ds → PyData.depthAll ds ≤ n + 1 := by
      intro xs ds p
      induction p with
      | nil => simp [PyData.depthAll]
      | cons a _ ih2 =>
        have := ih _ _ a
        simp only [PyData.depthAll]
        omega
    have kvs : ∀ {l : List (L2.Key × V)} {ps : List (L2.Key × PyData)}, Paired (fun (p : L2.Key × V) (q : L2.Key × PyData) => p.1 = q.1 ∧ DpD X.K H n p.2 q.2) l ps → PyData.depthKv (ps.map fun p => (kD p.1, p.2)) ≤ n + 1 := by
      intro l ps p
      induction p with
      | nil => simp [PyData.depthKv]
      | @cons _ qq _ _ a _ ih2 =>
        have := ih _ _ a.2
        simp only [List.map_cons, PyData.depthKv]
        have : (kD qq.1).depth ≤ 1 := by cases qq.1 <;> simp [kD, PyData.depth]
        omega
    rcases a with a | ⟨a, xs, ds, rfl, ht, rfl, p⟩ | ⟨a, xs, ds, rfl, hl, rfl, p⟩ | ⟨a, l, ps, rfl, e, rfl, p⟩
    · cases v <;> first | exact a.elim | (have a' : d = _ := a; subst a'; simp [PyData.depth])
    · have := all p; simp only [PyData.depth]; omega
    · have := all p; simp only [PyData.depth]; omega
    · have := kvs p; unfold dicD; simp only [PyData.depth]; omega
end
def rReprDD (K : PySem.W.Frag) : List V → Hp → VK → Prop := fun xs H Q => ∃ a d, xs = [.ref a] ∧ DpD K H 40 (.ref a) d ∧ d.showable = true ∧ d.shown.length ≤ sizeLine ∧ Q (.str d.shown) H
def Boxed : EV → Prop
  | .tup _ => True
  | .ktup _ => True
  | .ref _ => True
  | _ => False
def qU : LC := fun vs h P => match vs with
  | [v] => (∃ d, Boxed v ∧ DatD h 40 v d ∧ d.showable = true ∧ d.shown.length ≤ sizeLine ∧ P (.str d.shown.cps.toList) h) ∨ reprW [v] h P
  | _ => False
theorem Boxed.ref {K : PySem.W.Frag} {m : Nat → Addr} {n : Nat} {H : Hp} {v : EV} {x : V} (b : Boxed v) (r : aC K m n H v x) : ∃ a, x = .ref a := by
  cases v <;> first
    | exact b.elim
    | (rw [aC] at r; obtain ⟨a, _, rfl, _⟩ := r; exact ⟨a, rfl⟩)
    | (rw [aC] at r; exact ⟨_, r.2⟩)
section
variable {X : Cx}
theorem call_reprDD (S : SysK X.K) (hG : X.A.guards = some []) (hu : X.A.units + 64 < cLine) : CallR X (.builtin "repr") (rReprDD X.K) := by
  intro pins s σ H xs us Q I r q
  obtain ⟨a, d, rfl, hd, sd, zd, q⟩ := q
  obtain ⟨u, rfl, ru⟩ := vals1 r
  obtain ⟨as, rd, hsm⟩ := DpD.reads S I _ _ _ _ hd ru
  have dd := DpD.depth _ _ _ hd
  cases (show u = Value.ref _ from ru)
  exact PySem.repr_of_reads' rd sd (fun _ => hsm) hG (by omega) (fun _ _ e => e) (fun h' u tk kk => ⟨.str _, H, I.kept kk, ⟨_, rfl⟩, q⟩) zd
theorem lc_reprDD (S : SysK X.K) (hG : X.A.guards = some []) (hu : X.A.units + 64 < cLine) : nH X (.builtin "repr") qU := by
  obtain ⟨r0, h1, h2⟩ := lc_reprW (X := X) hG hu
  refine ⟨fun xs H Q => rReprDD X.K xs H Q ∨ r0 xs H Q, CallR.or (call_reprDD S hG hu) h1, ?_⟩
  intro m h H vs xs P Q R rr q k
  unfold qU at q
  split at q
  · rename_i v
    rcases q with ⟨d, bx, dd, sd, zd, p⟩ | q
    · obtain ⟨x, rfl, rx⟩ := rr.one_inv
      obtain ⟨a, rfl⟩ := bx.ref rx
      exact .inl ⟨a, d, rfl, DatD.dp R 40 _ _ _ dd rx, sd, zd, k.same R p (by rw [aC])⟩
    · exact .inr (h2 m h H [v] xs P Q R rr q k)
  · exact q.elim
end
section
variable {P : Program} {w : World} {K : PySem.W.Frag} {A : Around} {hp : Heap} {g0 : Array GenState} {dr : Drawn} {tk : Nat} {os : OsState} {C fI e t0 : Addr} {x y f g : Str} {u v : Value} {R : Result → Shared → Prop}
end
section
variable {X : Cx} {C : Addr} {x y f g : Str}
end
section
variable {X : Cx} {W : EW}
end
section
variable {K : PySem.W.Frag} {m m' : Nat → Addr} {n n' : Nat} {H H' : Hp} {h h' : EH}
end
section
variable {X : Cx}
end
end Y
namespace Y
open PySem PySem.Spec PyProof.Rows L2 HT
section
variable {prog : Program} {w : World} {A : Around} {E : Value → Shared → Prop} {s : Shared}
theorem adjust_rev1 (n : Nat) (h : 0 < n) : Builtin.Slice.sliceAdjust none (some 0) (-1) (n : Int) = ((n : Int) - 1, 0) := by
  have h1 : ((-1 : Int) < 0) := by omega
  have h2 : ¬ ((0 : Int) < 0) := by omega
  unfold Builtin.Slice.sliceAdjust
  simp only [h1, if_true, h2, if_false]
  first
    | rfl
    | (congr 1; split <;> omega)
    | (split <;> first | rfl | omega)
    | (simp; omega)
theorem places_rev1 (n : Nat) (h : 0 < n) : Builtin.Slice.slicePlaces ((n : Int) - 1) 0 (-1) = n - 1 := by
  unfold Builtin.Slice.slicePlaces
  have h1 : ¬((-1 : Int) > 0) := by omega
  simp only [h1, if_false]
  split <;> simp <;> omega
theorem sliceApplied_rev1 {sl : Addr} {vl vu vs : Value} {n : Nat} {Q : Int × Int × Nat → Shared → Prop} (hn : 0 < n) (hs : s.heap.IsSliceOf sl vl vu vs) (pl : IsPart vl none) (pu : IsPart vu (some 0)) (ps : IsPart vs (some (-1)))
    (h : Q ((n : Int) - 1, -1, n - 1) s) : wpAny (model prog w) A (Builtin.Slice.sliceApplied (.ref sl) (pure (n : Int))) Q E s := by
  obtain ⟨os, hos, hcs, hds⟩ := id hs
  unfold Builtin.Slice.sliceApplied Builtin.Slice.sliceFields
  refine wpAny_bind (wpAny_bind (wpAny_field hos hds (x := vl) rfl (wpAny_bind (wpAny_field hos hds (x := vu) rfl (wpAny_bind (wpAny_field hos hds (x := vs) rfl (wpAny_pure ?_)))))))
  refine wpAny_bind (slicePart_ ps ?_)
  show wpAny _ _ (if ((-1 : Int) == 0) = true then _ else _) _ _ s
  rw [if_neg (by decide)]
  refine wpAny_bind (slicePart_ pl (wpAny_bind (slicePart_ pu (wpAny_bind (wpAny_pure ?_)))))
  show wpAny _ _ (match Builtin.Slice.sliceAdjust none (some 0) (-1) (n : Int) with | (lo, hi) => pure (lo, (-1 : Int), Builtin.Slice.slicePlaces lo hi (-1))) _ _ s
  rw [adjust_rev1 n hn]
  show wpAny _ _ (pure ((n : Int) - 1, (-1 : Int), Builtin.Slice.slicePlaces ((n : Int) - 1) 0 (-1))) _ _ s
  rw [places_rev1 n hn]
  exact wpAny_pure h
theorem fm_congr1 {α β : Type} {f g : α → Option β} : ∀ {l : List α}, (∀ x ∈ l, f x = g x) → l.filterMap f = l.filterMap g
  | [], _ => rfl
  | a :: l, h => by rw [List.filterMap_cons, List.filterMap_cons, h a (by simp), fm_congr1 fun x hx => h x (List.mem_cons_of_mem _ hx)]
theorem pick_rev1 (xs : Array Value) (h : 0 < xs.size) : ((List.range (xs.size - 1)).filterMap fun (m : Nat) => xs[(((xs.size : Int) - 1) + (m : Int) * (-1)).toNat]?).toArray = (xs.toList.drop 1).reverse.toArray := by
  have e1 : ((List.range (xs.size - 1)).filterMap fun (m : Nat) => xs[(((xs.size : Int) - 1) + (m : Int) * (-1)).toNat]?) = (List.range (xs.size - 1)).map fun m => xs.toList.getD (xs.size - 1 - m) .none := by
    refine (fm_congr1 (g := some ∘ fun m => xs.toList.getD (xs.size - 1 - m) .none) fun m hm => ?_).trans (congrFun List.filterMap_eq_map _)
    have := List.mem_range.mp hm
    show xs[(((xs.size : Int) - 1) + (m : Int) * (-1)).toNat]? = some (xs.toList.getD (xs.size - 1 - m) .none)
    rw [show (((xs.size : Int) - 1) + (m : Int) * (-1)).toNat = xs.size - 1 - m by omega, List.getD_eq_getElem?_getD, Array.getElem?_toList, Array.getElem?_eq_getElem (by omega)]
    try rfl
  rw [e1]
  congr 1
  refine List.ext_getElem (by simp) fun i h1 h2 => ?_
  simp only [List.length_map, List.length_range] at h1
  rw [List.getElem_map, List.getElem_range, List.getElem_reverse, List.getElem_drop, List.getD_eq_getElem?_getD]
  rw [List.getElem?_eq_getElem (by rw [Array.length_toList]; omega)]
  simp only [Option.getD_some, List.length_drop, Array.length_toList]
  congr 1
  omega
theorem getItem_tuple_rev1 {t sl : Addr} {items : Array Value} {vl vu vs : Value} {Q : Value → Shared → Prop} (hn : 0 < items.size) (ht : IsTup s.heap t items) (hs : s.heap.IsSliceOf sl vl vu vs) (pl : IsPart vl none) (pu : IsPart vu (some 0)) (ps : IsPart vs (some (-1)))
    (h : Q (.ref s.heap.objs.size) { s with heap := s.heap.push { cls := .type "tuple", data := .seq (items.toList.drop 1).reverse.toArray } })
    (hsz : items.size ≤ sizeLine) : wpAny (model prog w) A (getItem (.ref t) (.ref sl)) Q E s := by
  have htake : sizeOk (.seq (items.toList.drop 1).reverse.toArray) := by
    show (items.toList.drop 1).reverse.toArray.size ≤ sizeLine
    rw [List.size_toArray, List.length_reverse, List.length_drop, Array.length_toList]
    omega
  obtain ⟨os, hos, hcs, hds⟩ := id hs
  have hTs : s.TypeIs (.ref sl) "slice" := ⟨os, hos, hcs⟩
  unfold getItem
  try with_reducible refine wpAny_holding ?_
  first | refine wpAny_bind (wpAny_pure ?_) | skip
  refine wpAny_bind (wpAny_sequenceKey ht.typeIs (by decide) ?_)
  refine wpAny_bind (wpAny_callSpecial?_slot (name := Str.ofString "__getitem__") ht.typeIs PyProof.Rows.slot_tuple_getitem
    (wpAny_call_entry PyProof.Rows.slot_tuple_getitem ht.typeIs entry_tuple_getitem ?_ (args_tuple_getitem _ _)))
  show wpAny _ _ (Builtin.Tuple.tupleItemsOf (.ref t) >>= _) _ _ s
  refine wpAny_bind (tupleItemsOf_ ht ?_)
  refine wpAny_bind (wpAny_typeOf hTs ?_)
  rw [if_pos (by decide)]
  refine wpAny_bind (sliceApplied_rev1 hn hs pl pu ps ?_)
  have hno : ¬ ((((items.size : Int) - 1) == 0 && (-1 : Int) == 1 && items.size - 1 == items.size) = true) := by simp
  show wpAny _ _ (if (((items.size : Int) - 1) == 0 && (-1 : Int) == 1 && items.size - 1 == items.size) = true then _ else _) _ _ s
  rw [if_neg hno, pick_rev1 _ hn]
  first
    | exact wpAny_bind (m := Builtin.Tuple.tupleExact _) (wpAny_newObj_type (wpAny_pure ⟨_, rfl, wpAny_pure h⟩) htake)
    | exact wpAny_bind (m := Builtin.Tuple.tupleExact _) (wpAny_newObj_type (wpAny_bind (wpAny_pure (wpAny_pure ⟨_, rfl, wpAny_pure h⟩))) htake)
    | exact wpAny_bind (wpAny_bind (m := Builtin.Tuple.tupleExact _) (wpAny_newObj_type (wpAny_pure (wpAny_pure ⟨_, rfl, wpAny_pure h⟩)) htake))
    | exact wpAny_bind (wpAny_bind (m := Builtin.Tuple.tupleExact _) (wpAny_newObj_type (wpAny_pure ⟨_, rfl, wpAny_pure h⟩) htake))
end
def lRev1 (te : LT) : LT := fun env h P => te env h fun v h1 => match v with
  | .tup xs => xs ≠ [] ∧ P (.tup (xs.drop 1).reverse) h1
  | _ => False
theorem le_rev1 {X : Cx} {e : Expr} {te : LT} {k k0 : Nat} {p0 p1 p2 p3 pos : Pos} (he : LE X e te) :
    LE X (.Subscript e (.Slice none (some (.Constant (.int 0) k0 p0)) (some (.UnaryOp .USub (.Constant (.int 1) k p1) p2)) p3) pos) (lRev1 te) := by
  refine ⟨⟨fun pins s σ H Q I ⟨m, env, h, P, at_, t1, kk⟩ => ?_⟩⟩
  refine Subscript_ (thn (he.pe.run pins s σ H (fun x H1 => ∃ a xs, x = .ref a ∧ SqT X.K H1 a xs ∧ 0 < xs.length ∧ ∀ p, H1 p = none → Q (.ref p) (upd H1 p (.tup (xs.drop 1).reverse))) I ⟨m, env, h, _, at_, t1, fun v h1 p1 m1 H1 x E1 R1 r1 => ?_⟩) fun v s1 ⟨x, H1, I1, r1, q1⟩ => ?_)
  · cases v with
    | tup xs =>
      rw [aC] at r1
      obtain ⟨a, vs, rfl, hs, r⟩ := r1
      refine ⟨a, vs, rfl, SqT.of hs, ?_, fun p hp => (kk.ex E1).tup R1 p1.2 (r.drop 1).reverse hp⟩
      rw [← r.length]
      exact List.length_pos_iff.mpr p1.1
    | _ => exact p1.elim
  · have hst : PO X (some (.UnaryOp .USub (.Constant (.int 1) k p1) p2)) (tPart (tUn (rU fun i => .int (-i)) (tC (.int 1)))) := po_some (pe_un un_neg pe_int)
    have hup : PO X (some (.Constant (.int 0) k0 p0)) (tPart (tC (.int 0))) := po_some pe_int
    refine wpAny_Slice (thn (po_none.run pins s1 σ H1 (fun o H2 => o = none ∧ H2 = H1) I1 ⟨rfl, rfl⟩) fun vl s2 ⟨l, H2, I2, pl, el, e2⟩ => ?_)
    subst el e2
    refine thn (hup.run pins s2 σ H2 (fun o H3 => o = some 0 ∧ H3 = H2) I2 ⟨0, rfl, rfl, rfl⟩) fun vu s3 ⟨u, H3, I3, pu, eu, e3⟩ => ?_
    subst eu e3
    refine thn (hst.run pins s3 σ H3 (fun o H4 => o = some (-1) ∧ H4 = H3) I3 ⟨1, rfl, -1, rfl, rfl, rfl⟩) fun vs s4 ⟨o, H4, I4, ps, eo, e4⟩ => ?_
    subst eo e4
    have I5 : Inv X pins σ H4 { s4 with heap := s4.heap.push { cls := .type "slice", data := .fields #[vl, vu, vs] } } := I4.kept (t' := s4.toks) fun b ob q => Heap.get?_push_of_some _ q
    obtain ⟨a, xs, ex, hx, hpos, q⟩ := q1
    subst ex
    cases r1
    obtain ⟨its, r, ht, hz⟩ := I5.tuple hx
    have hlen := r.length
    show wpAny (model X.prog X.w) X.A (subscriptTail e (.Slice none (some (.Constant (.int 0) k0 p0)) (some (.UnaryOp .USub (.Constant (.int 1) k p1) p2)) p3) (.ref a) (.ref s4.heap.objs.size)) (EP X pins σ Q) X.xe { s4 with heap := s4.heap.push { cls := .type "slice", data := .fields #[vl, vu, vs] } }
    refine tail_any (ops := [.ref a, .ref s4.heap.objs.size]) ht.typeIs (PyProof.Rows.slot_tuple_getitem.lookup) ?_ (by with_unfolding_all rfl)
    refine getItem_tuple_rev1 (by rw [List.size_toArray]; omega) ht (Heap.IsSliceOf.new _ vl vu vs) pl pu ps ?_ (by rw [List.size_toArray]; omega)
    refine ⟨.ref _, _, I5.laid (t' := s4.toks) (o := .tup (xs.drop 1).reverse) (fun b ob q => Heap.get?_push_of_some _ q) (Nat.le_refl _) ?_, rfl, q _ (I5.hok.fresh (Nat.le_refl _))⟩
    exact ⟨by rw [List.length_reverse, List.length_drop]; omega, _, (r.drop 1).reverse, IsTup.new _ _⟩
end Y
namespace Y
open PySem PySem.Spec PyProof.Rows L2
section
variable {X : Cx}
end
def KTupN (K : PySem.W.Frag) (a : Addr) (xs : List EV) : Prop := ∀ (m : Nat → Addr) (n : Nat) (H : Hp), ∃ us, SqT K H a us ∧ aO K m n H xs us
theorem le_gtupN {X : Cx} {a : Addr} {xs : List EV} {x : Str} {pos : Pos} (T : KTupN X.K a xs) (hg : Gl X x) (hm : X.mg x = some (.ref a)) (hd : (x == ("__debug__" : Str)) = false := by decide) : LE X (.Name x pos) (lC (.ktup xs)) := by
  refine ⟨⟨fun pins s σ H Q I ⟨m, env, h, P, at_, t1, k⟩ => ld_glob I hg hm (s := s) ⟨.ref a, H, I, rfl, k _ _ t1 m H _ .refl at_.hp ?_⟩ hd⟩⟩
  obtain ⟨us, t, r⟩ := T m h.length H
  rw [aC]
  exact ⟨a, us, rfl, t, r⟩
def thgB (K : PySem.W.Frag) : EV → Value → Bool
  | .ktup ys, .ref b => tupB K b ys
  | v, u => oM v && He.relB (toV v) u
def thgsB (K : PySem.W.Frag) : List EV → List Value → Bool
  | [], [] => true
  | v :: vs, u :: us => thgB K v u && thgsB K vs us
  | _, _ => false
theorem thgB_ok {K : PySem.W.Frag} {v : EV} {u : Value} (h : thgB K v u = true) (m : Nat → Addr) (n : Nat) (H : Hp) : ∃ x, RelV x u ∧ aC K m n H v x := by
  unfold thgB at h
  split at h
  · rename_i ys b
    have T := tupB_ok h
    refine ⟨.ref b, rfl, ?_⟩
    rw [aC]
    exact ⟨b, _, rfl, T.2 H, flats_toV T.1⟩
  · obtain ⟨h1, h2⟩ := He.ba h
    refine ⟨_, He.relB_ok h2, ?_⟩
    cases v <;> first | (rw [aC]; rfl) | (simp [oM] at h1; done)
theorem thgsB_ok {K : PySem.W.Frag} (m : Nat → Addr) (n : Nat) (H : Hp) : ∀ {vs : List EV} {us : List Value}, thgsB K vs us = true → ∃ xs, Vals xs us ∧ aO K m n H vs xs
  | [], [], _ => ⟨[], .nil, .nil⟩
  | v :: vs, u :: us, h => by
    obtain ⟨a, b⟩ := He.ba h
    obtain ⟨x, r1, r2⟩ := thgB_ok a m n H
    obtain ⟨xs, q1, q2⟩ := thgsB_ok m n H b
    exact ⟨x :: xs, .cons r1 q1, .cons r2 q2⟩
  | [], _ :: _, h => by cases h
  | _ :: _, [], h => by cases h
def tupNB (K : PySem.W.Frag) (a : Addr) (xs : List EV) : Bool := match K.lookup a with
  | some ⟨.type c, _, .seq its _, _⟩ => decide (c = "tuple") && (decide (its.size ≤ sizeLine) && thgsB K xs its.toList)
  | _ => false
theorem tupNB_ok {K : PySem.W.Frag} {a : Addr} {xs : List EV} (h : tupNB K a xs = true) : KTupN K a xs := by
  intro m n H
  unfold tupNB at h
  split at h
  · rename_i c od its k osl q
    obtain ⟨h3, h4⟩ := He.ba h
    obtain ⟨h4, h5⟩ := He.ba h4
    have e : c = "tuple" := of_decide_eq_true h3
    subst e
    obtain ⟨us, r1, r2⟩ := thgsB_ok m n H h5
    exact ⟨us, .inr ⟨_, its, k, q, rfl, rfl, of_decide_eq_true h4, r1⟩, r2⟩
  · cases h
section
variable {X : Cx}
end
section
variable {X : Cx}
end
section
variable {X : Cx} {pins : List (Addr × Obj)} {σ : L2.St} {H : Hp} {s : Shared} {d : Addr} {o : Obj}
end
section
variable {X : Cx}
end
section
variable {X : Cx}
end
section
variable {X : Cx}
end
section
variable {X : Cx}
end
end Y
namespace Y
open PySem PySem.Spec PyProof.Rows L2
open AutoSeq1 (wpAny_loadPart')
theorem dict_eq_str (b : Addr) (n2 : Nat) (es : Array DictEntry) (dd2 : Option Addr) (sl2 : Array (Option Value)) (x : Str) (u : Tok) :
    Meets (Builtin.«dict.__eq__» ⟨[.ref b, .str x u], []⟩) (fun _ R s => s.heap.get? b = some { cls := .type "dict", dict := dd2, data := .dict es n2, slots := sl2 } ∧ R (.ok (.ret .notImplemented)) s) :=
  .of_wp fun prog w A R s h => by obtain ⟨hp, g, d, tk, os⟩ := s; obtain ⟨hb, h⟩ := h; have f1 := F.sub_str_dict; wp_walk using wpAny_loadPart' hb; exact ⟨_, rfl, h⟩
theorem str_eq_dict (x : Str) (u : Tok) (b : Addr) (n2 : Nat) (es : Array DictEntry) (dd2 : Option Addr) (sl2 : Array (Option Value)) :
    Meets (Builtin.«str.__eq__» ⟨[.str x u, .ref b], []⟩) (fun _ R s => s.heap.get? b = some { cls := .type "dict", dict := dd2, data := .dict es n2, slots := sl2 } ∧ R (.ok (.ret .notImplemented)) s) :=
  .of_wp fun prog w A R s h => by obtain ⟨hp, g, d, tk, os⟩ := s; obtain ⟨hb, h⟩ := h; wp_walk using wpAny_loadPart' hb, wpAny_load hb; exact ⟨_, rfl, h⟩
theorem rc_dict_str {A : Around} {s : Shared} {b : Addr} {o2 : Obj} {n2 : Nat} {es : Array DictEntry} (x : Str) (u : Tok) (ho2 : s.heap.get? b = some o2) (hc2 : o2.cls = .type "dict") (hd2 : o2.data = .dict es n2) (hu : A.units < cLine) : PySem.SeqAt.RcAt A s (.ref b) (.str x u) false := fun prog w E Q h => by
  obtain ⟨cls2, dd2, data2, sl2⟩ := o2
  simp only at hc2 hd2
  subst hc2 hd2
  exact (PySem.SeqAt.rc_eq_decline_or (k := false) ⟨_, ho2, rfl⟩ (typeIs_str s x u) (by decide) F.sub_str_dict F.slot_dict_eq F.slot_str_eq_refl
    (fun _ hq => call_meets F.slot_dict_eq ⟨_, ho2, rfl⟩ F.entry_dict_eq (F.args_dict_eq_2 _ _) (dict_eq_str b n2 es dd2 sl2 x u) ⟨ho2, hq⟩)
    (fun _ hq => call_meets F.slot_str_eq_refl (typeIs_str s x u) F.entry_str_eq (F.args_str_eq_2 _ _) (str_eq_dict x u b n2 es dd2 sl2) ⟨ho2, hq⟩)
    (fun _ hq => wpAny_of_eq (rfl : isSame (.ref b) (.str x u) = pure false) hq) (.inr hu) h)
theorem rc_str_dict {A : Around} {s : Shared} {b : Addr} {o2 : Obj} {n2 : Nat} {es : Array DictEntry} (x : Str) (u : Tok) (ho2 : s.heap.get? b = some o2) (hc2 : o2.cls = .type "dict") (hd2 : o2.data = .dict es n2) (hu : A.units < cLine) : PySem.SeqAt.RcAt A s (.str x u) (.ref b) false := fun prog w E Q h => by
  obtain ⟨cls2, dd2, data2, sl2⟩ := o2
  simp only at hc2 hd2
  subst hc2 hd2
  exact (PySem.SeqAt.rc_eq_decline_or (k := false) (typeIs_str s x u) ⟨_, ho2, rfl⟩ (by decide) F.sub_dict_str F.slot_str_eq F.slot_dict_eq_refl
    (fun _ hq => call_meets F.slot_str_eq (typeIs_str s x u) F.entry_str_eq (F.args_str_eq_2 _ _) (str_eq_dict x u b n2 es dd2 sl2) ⟨ho2, hq⟩)
    (fun _ hq => call_meets F.slot_dict_eq_refl ⟨_, ho2, rfl⟩ F.entry_dict_eq (F.args_dict_eq_2 _ _) (dict_eq_str b n2 es dd2 sl2 x u) ⟨ho2, hq⟩)
    (fun _ hq => wpAny_of_eq (rfl : isSame (.str x u) (.ref b) = pure false) hq) (.inr hu) h)
theorem ea_str_dict {A : Around} {s : Shared} {b : Addr} {o2 : Obj} {n2 : Nat} {es : Array DictEntry} (x : Str) (u : Tok) (ho2 : s.heap.get? b = some o2) (hc2 : o2.cls = .type "dict") (hd2 : o2.data = .dict es n2) (hu : A.units < cLine) : PySem.SeqAt.EqAt A s (.str x u) (.ref b) false := fun prog w E Q h => by
  unfold eqBool
  refine wpAny_holding ?_
  refine wpAny_ite_split (fun hab => absurd (eq_of_beq hab) nofun) (fun _ => ?_)
  exact wpAny_bind (rc_str_dict x u ho2 hc2 hd2 hu prog w E _ (wpAny_truthy_bool h))
inductive KdV (K : PySem.W.Frag) (H : Hp) : V → Prop
  | non : KdV K H .non
  | bl (b : Bool) : KdV K H (.bl b)
  | int (i : Int) : KdV K H (.int i)
  | str (s : Str) : KdV K H (.str s)
  | lst {a : Addr} {xs : List V} : SqL K H a xs → KdV K H (.ref a)
  | tup {a : Addr} {xs : List V} : SqT K H a xs → KdV K H (.ref a)
  | dic {a : Addr} {l : List (L2.Key × V)} : H a = some (.dK l) → KdV K H (.ref a)
def tsV : V → Str → Bool
  | .str s, t => s == t
  | _, _ => false
section
variable {X : Cx}
theorem rc_any {pins : List (Addr × Obj)} {σ : L2.St} {H : Hp} {s : Shared} (I : Inv X pins σ H s) {A : Around} (hu : A.units < cLine) {x : V} {v : Value} (rx : RelV x v) (kx : KdV X.K H x) (t : Str) (u : Tok) : PySem.SeqAt.RcAt A s v (.str t u) (tsV x t) := by
  cases kx with
  | non => cases rx; exact .none_str t u
  | bl b => cases rx; exact .bool_str b t u
  | int i => obtain ⟨k, rfl⟩ := rx; exact .int_str i k t u
  | str z => obtain ⟨k, rfl⟩ := rx; exact .str_str z k t u
  | lst hl =>
    cases (show v = Value.ref _ from rx)
    obtain ⟨its, r, pl, hz⟩ := I.list hl
    exact .list_str t u pl.isList hu
  | tup hl =>
    cases (show v = Value.ref _ from rx)
    obtain ⟨its, r, pl, hz⟩ := I.tuple hl
    exact .tuple_str t u pl hu
  | dic eb =>
    cases (show v = Value.ref _ from rx)
    obtain ⟨_, sm, vs, kv, o2, es, ep, h1, h2, h3, _, hp, _⟩ := (show ObjOk X.prog X.w H s.heap _ (.dK _) from I.hok _ _ eb)
    exact rc_dict_str t u h1 h2.1 h3 hu
theorem ea_any {pins : List (Addr × Obj)} {σ : L2.St} {H : Hp} {s : Shared} (I : Inv X pins σ H s) {A : Around} (hu : A.units < cLine) {x : V} {v : Value} (rx : RelV x v) (kx : KdV X.K H x) (t : Str) (u : Tok) : PySem.SeqAt.EqAt A s (.str t u) v (tsV x t) := by
  cases kx with
  | non => cases rx; exact .str_none t u
  | bl b => cases rx; exact .str_bool t u b
  | int i => obtain ⟨k, rfl⟩ := rx; exact .str_int t u i k
  | str z =>
    obtain ⟨k, rfl⟩ := rx
    have : tsV (.str z) t = (t == z) := by show (z == t) = (t == z); rw [Bool.eq_iff_iff, beq_iff_eq, beq_iff_eq]; exact eq_comm
    rw [this]
    exact .str_str t u z k
  | lst hl =>
    cases (show v = Value.ref _ from rx)
    obtain ⟨its, r, pl, hz⟩ := I.list hl
    exact .str_list t u pl.isList hu
  | tup hl =>
    cases (show v = Value.ref _ from rx)
    obtain ⟨its, r, pl, hz⟩ := I.tuple hl
    exact .str_tuple t u pl hu
  | dic eb =>
    cases (show v = Value.ref _ from rx)
    obtain ⟨_, sm, vs, kv, o2, es, ep, h1, h2, h3, _, hp, _⟩ := (show ObjOk X.prog X.w H s.heap _ (.dK _) from I.hok _ _ eb)
    exact ea_str_dict t u h1 h2.1 h3 hu
def rEqS (K : PySem.W.Frag) : R2 := fun x y H Q => ∃ t, y = .str t ∧ KdV K H x ∧ Q (.bl (tsV x t)) H
theorem op_eqS (hu : X.A.units + 64 < cLine) : OpR X (compareOp .Eq) (rEqS X.K) := by
  intro pins s σ H x y v u Q I rx ry h
  obtain ⟨t, rfl, kx, q⟩ := h
  obtain ⟨k, rfl⟩ := ry
  exact rc_any I (A := X.A) (by omega) rx kx t k _ _ _ _ ⟨.bl _, H, I, rfl, q⟩
def rInTS (K : PySem.W.Frag) : R2 := fun x y H Q => ∃ (a : Addr) (ts : List Str), y = .ref a ∧ SqT K H a (ts.map V.str) ∧ KdV K H x ∧ Q (.bl (ts.any (tsV x))) H
theorem op_inTS (hu : X.A.units + 65 < cLine) : OpR X (compareOp .In) (rInTS X.K) := by
  intro pins s σ H x y v u Q I rx ry h
  obtain ⟨a, ts, rfl, hq, kx, q⟩ := h
  cases ry
  obtain ⟨its, r, pl, hz⟩ := I.tuple hq
  have hu1 : X.A.in1.units < cLine := by show X.A.units + 1 < cLine; omega
  have st := r.strs
  have any : ∀ {us : List Value} {zs : List Str}, StrsAre us zs → us.any (fun w => match w with | .str z _ => tsV x z | _ => false) = zs.any (tsV x) ∧ ∀ w ∈ us, ∃ z k, w = .str z k := by
    intro us zs h
    induction h with
    | nil => exact ⟨rfl, fun w hw => by cases hw⟩
    | @cons _ _ _ _ _ ih => exact ⟨by rw [List.any_cons, List.any_cons, ih.1], fun w hw => by
        rcases List.mem_cons.mp hw with rfl | hw
        · exact ⟨_, _, rfl⟩
        · exact ih.2 w hw⟩
  obtain ⟨e1, e2⟩ := any st
  refine SeqAt.in_tupleAt (fun w => match w with | .str z _ => tsV x z | _ => false) pl (fun w hw => ?_) ⟨.bl _, H, I, rfl, ?_⟩
  · obtain ⟨z, k, rfl⟩ := e2 w (by simpa using hw)
    exact ea_any I hu1 rx kx z k
  · rw [show its.toArray.any (fun w => match w with | .str z _ => tsV x z | _ => false) = its.any (fun w => match w with | .str z _ => tsV x z | _ => false) by simp, e1]
    exact q
end
def pkE (v : EV) (h : EH) : Bool := match v with
  | .non => true
  | .bl _ => true
  | .int _ => true
  | .str _ => true
  | .tup _ => true
  | .ref r => match h[r]? with
    | some (.lst _) => true
    | some (.dic _) => true
    | _ => false
  | _ => false
def mH : EV → List Nat → Bool
  | .str s, t => decide (s = t)
  | _, _ => false
theorem pkE_V {K : PySem.W.Frag} {m : Nat → Addr} {h : EH} {H : Hp} {v : EV} {x : V} (R : cC K m h H) (rx : aC K m h.length H v x) (p : pkE v h = true) : KdV K H x ∧ ∀ t, tsV x (S t) = mH v t := by
  unfold pkE at p
  split at p
  · rw [aC] at rx; subst rx; exact ⟨.non, fun _ => rfl⟩
  · rw [aC] at rx; subst rx; exact ⟨.bl _, fun _ => rfl⟩
  · rw [aC] at rx; subst rx; exact ⟨.int _, fun _ => rfl⟩
  · rw [aC] at rx; subst rx; exact ⟨.str _, fun t => by show (S _ == S t) = decide _; rw [beqD]; exact decide_eq_decide.mpr S_inj⟩
  · rw [aC] at rx
    obtain ⟨a, vs, rfl, hs, r⟩ := rx
    exact ⟨.tup (SqT.of hs), fun _ => rfl⟩
  · rw [aC] at rx
    obtain ⟨_, rfl⟩ := rx
    split at p
    · rename_i e
      obtain ⟨vs, hv, t⟩ := R.obj _ _ e
      exact ⟨.lst (SqL.of hv), fun _ => rfl⟩
    · rename_i e
      obtain ⟨l, el, rl⟩ := R.obj _ _ e
      exact ⟨.dic el, fun _ => rfl⟩
    · cases p
  · cases p
def eqS : LO := fun v w h P => (∃ t, w = .str t ∧ pkE v h = true ∧ P (.bl (mH v t)) h) ∨ eqE false v w h P
theorem lo_eqS {X : Cx} (hu : X.A.units + 64 < cLine) : oA X (compareOp .Eq) eqS := by
  obtain ⟨r, h1, h2⟩ := eY (X := X) hu
  refine ⟨_, OpR.or (op_eqS hu) h1, ?_⟩
  intro m h H v w x y P Q R rx ry q k
  rcases q with ⟨t, rfl, p, q⟩ | q
  · rw [aC] at ry
    subst ry
    obtain ⟨k1, k2⟩ := pkE_V R rx p
    refine .inl ⟨_, rfl, k1, ?_⟩
    rw [k2]
    exact k.same R q (by rw [aC])
  · exact .inr (h2 m h H v w x y P Q R rx ry q k)
def inTS : LO := fun v w h P => (∃ ts : List (List Nat), w = .tup (ts.map EV.str) ∧ pkE v h = true ∧ P (.bl (ts.any (mH v))) h) ∨ inA false v w h P
theorem strs_relS {K : PySem.W.Frag} {m : Nat → Addr} {n : Nat} {H : Hp} : ∀ {ts : List (List Nat)} {vs : List V}, aO K m n H (ts.map EV.str) vs → vs = (ts.map S).map V.str
  | [], vs, r => by rw [List.map_nil, aO] at r; exact r
  | t :: ts, vs, r => by
    rw [List.map_cons, aO] at r
    obtain ⟨v, l, rfl, a, b⟩ := r
    rw [aC] at a
    subst a
    rw [strs_relS b]; rfl
theorem lo_inTS {X : Cx} (hu : X.A.units + 65 < cLine) : oA X (compareOp .In) inTS := by
  obtain ⟨r, h1, h2⟩ := lo_in (X := X) hu
  refine ⟨_, OpR.or (op_inTS hu) h1, ?_⟩
  intro m h H v w x y P Q R rx ry q k
  rcases q with ⟨ts, rfl, p, q⟩ | q
  · rw [aC] at ry
    obtain ⟨a, vs, rfl, hs, rs⟩ := ry
    obtain ⟨k1, k2⟩ := pkE_V R rx p
    have := strs_relS rs
    subst this
    refine .inl ⟨a, ts.map S, rfl, SqT.of hs, k1, ?_⟩
    rw [show (ts.map S).any (tsV x) = ts.any (mH v) by rw [List.any_map]; congr 1; funext t; exact k2 t]
    exact k.same R q (by rw [aC])
  · exact .inr (h2 m h H v w x y P Q R rx ry q k)
theorem strip_S (s t : List Nat) : ∃ u, Txt.stripChars (S s) (S t) = S u ∧ (u = [] ↔ ∀ c ∈ s, c ∈ t) := by
  have g0 : ∀ c, (S t).cps.contains c = true ↔ c ∈ t := fun c => by
    show (t.toArray.contains c) = true ↔ _
    simp
  obtain ⟨g, hg⟩ : ∃ g : Nat → Bool, g = (S t).cps.contains := ⟨_, rfl⟩
  have gm : ∀ c, g c = true ↔ c ∈ t := fun c => by rw [hg]; exact g0 c
  have e : Txt.stripChars (S s) (S t) = Builtin.Str.strSub (S s) (stripLo g true (S s)) (stripHi g true (S s) (stripLo g true (S s))) := by
    unfold Txt.stripChars
    rw [hg]
    exact PyProof.Rows.stripBy_eq _ _ _ _
  have hs : (S s).cps.toList = s := by show s.toArray.toList = s; simp
  have hl : (S s).length = s.length := S_len s
  have d0 : ∀ l : List Nat, l.drop (l.takeWhile g).length = l.dropWhile g := fun l => by
    induction l with
    | nil => rfl
    | cons c l ih =>
      by_cases h : g c = true
      · rw [List.takeWhile_cons_of_pos h, List.dropWhile_cons_of_pos h, List.length_cons, List.drop_succ_cons, ih]
      · rw [List.takeWhile_cons_of_neg h, List.dropWhile_cons_of_neg h]; rfl
  have lo : stripLo g true (S s) = (s.takeWhile g).length := by simp only [stripLo, if_true, hs]
  have hi : stripHi g true (S s) (stripLo g true (S s)) = s.length - ((s.dropWhile g).reverse.takeWhile g).length := by
    simp only [stripHi, if_true, hs, hl, lo, d0]
  have ll : (s.takeWhile g).length + (s.dropWhile g).length = s.length := by
    have := congrArg List.length (List.takeWhile_append_dropWhile (p := g) (l := s))
    rwa [List.length_append] at this
  refine ⟨(s.dropWhile g).take (s.length - ((s.dropWhile g).reverse.takeWhile g).length - (s.takeWhile g).length), ?_, ?_⟩
  · rw [e, hi, lo]
    unfold Builtin.Str.strSub
    show (⟨s.toArray.extract _ _⟩ : Str) = _
    rw [← d0 s]
    show _ = (⟨_⟩ : Str)
    congr 1
    simp [List.extract_eq_drop_take]
  · obtain ⟨d, hd⟩ : ∃ d, d = s.dropWhile g := ⟨_, rfl⟩
    rw [← hd] at ll ⊢
    have tl : (d.reverse.takeWhile g).length ≤ d.length := by
      have := (List.takeWhile_sublist g (l := d.reverse)).length_le
      rwa [List.length_reverse] at this
    constructor
    · intro h c hc
      have hz : d = [] := by
        rcases hdd : d with _ | ⟨x, r⟩
        · rfl
        · exfalso
          have nx : g x = false := by
            have := List.head_dropWhile_not (p := g) (l := s) (by rw [← hd, hdd]; simp)
            simp only [← hd, hdd, List.head_cons] at this
            simpa using this
          have h2 := congrArg List.length h
          rw [List.length_take, List.length_nil] at h2
          have h3 : (d.reverse.takeWhile g).length = d.length := by
            have : 0 < d.length := by rw [hdd]; simp
            omega
          have h4 : d.reverse.takeWhile g = d.reverse := by
            have := List.takeWhile_prefix g (l := d.reverse)
            exact this.eq_of_length (by rw [h3, List.length_reverse])
          have h5 : ∀ y ∈ d.reverse, g y = true := by
            intro y hy
            rw [← h4] at hy
            exact List.all_eq_true.mp (List.all_takeWhile (p := g) (l := d.reverse)) y hy
          have := h5 x (by rw [hdd]; simp)
          rw [nx] at this
          cases this
      have h6 : s.takeWhile g = s := by
        have := List.takeWhile_append_dropWhile (p := g) (l := s)
        rw [← hd, hz, List.append_nil] at this
        exact this
      rw [← h6] at hc
      exact (gm c).mp (List.all_eq_true.mp (List.all_takeWhile (p := g) (l := s)) c hc)
    · intro h
      have : d = [] := by
        have al : ∀ l : List Nat, (∀ c ∈ l, g c = true) → l.dropWhile g = [] := fun l hl => by
          induction l with
          | nil => rfl
          | cons c l ih => rw [List.dropWhile_cons_of_pos (hl c (by simp))]; exact ih fun c hc => hl c (by simp [hc])
        rw [hd]
        exact al s fun c hc => (gm c).mpr (h c hc)
      rw [this]
      exact List.take_nil
def stripE : LM := fun v vs h P => match v, vs with
  | .str s, [.str t] => s.length ≤ sizeLine ∧ ∀ u : List Nat, (u = [] ↔ ∀ c ∈ s, c ∈ t) → P (.str u) h
  | _, _ => False
theorem lm_strip {K : PySem.W.Frag} : LMl K "str" (fun x xs H Q => ∃ a b, x = .str a ∧ xs = [.str b] ∧ a.length ≤ sizeLine ∧ Q (.str (Txt.stripChars a b)) H) stripE := by
  intro m h H v x vs xs P Q R rx rv q k
  unfold stripE at q
  split at q
  · obtain ⟨y, rfl, ry⟩ := rv.one_inv
    rw [aC] at rx ry
    subst rx ry
    rename_i s t
    obtain ⟨u, e, iff⟩ := strip_S s t
    refine ⟨_, _, rfl, rfl, by rw [S_len]; exact q.1, ?_⟩
    rw [e]
    exact k.same R (q.2 u iff) (by rw [aC])
  · exact q.elim
end Y
namespace Y
open PySem PySem.Spec PyProof.Rows L2
structure XvC (K : PySem.W.Frag) (C : Addr) : Prop where
  xf : XfC K C
  cl : PySem.W.findIn K (.ref C) "__class__" = some (some (.builtin "object.__class__"))
  gt : PySem.W.specialIn K (.builtin "object.__class__") "__get__" = some (some (.builtin "getset_descriptor.__get__"))
  tk : PySem.W.takesIn K (.builtin "object.__class__") = some true
  mo : PySem.W.mroIn K C (.type "object") = some true
def xvB (K : PySem.W.Frag) (C : Addr) : Bool := xfB K C && (decide (PySem.W.findIn K (.ref C) "__class__" = some (some (.builtin "object.__class__"))) && (decide (PySem.W.specialIn K (.builtin "object.__class__") "__get__" = some (some (.builtin "getset_descriptor.__get__"))) &&
  (decide (PySem.W.takesIn K (.builtin "object.__class__") = some true) && decide (PySem.W.mroIn K C (.type "object") = some true))))
theorem xvB_ok {K : PySem.W.Frag} {C : Addr} (h : xvB K C = true) : XvC K C := by
  unfold xvB at h
  obtain ⟨h1, h⟩ := He.ba h
  obtain ⟨h2, h⟩ := He.ba h
  obtain ⟨h3, h⟩ := He.ba h
  obtain ⟨h4, h5⟩ := He.ba h
  exact ⟨xfB_ok h1, of_decide_eq_true h2, of_decide_eq_true h3, of_decide_eq_true h4, of_decide_eq_true h5⟩
section
open PySem.W
variable {prog : Program} {w : World} {A : Around} {E : Value → Shared → Prop} {s : Shared} {K : PySem.W.Frag} {x D : Addr} {ox : Obj} {od : Option Obj}
theorem exv_class {Q : Option Value → Shared → Prop} (T : XvC K D) (X : K.In s.heap) (I : InstAt s.heap x ox D od) (h : Q (some (.ref D)) { s with toks := s.toks + 1 }) : wpAny (model prog w) A (getAttr? (.ref x) "__class__") Q E s := by
  obtain ⟨cd, hcd, _⟩ := any_some T.xf.hdC
  have hf : findObj K D od "__class__" = some (.bind (.builtin "getset_descriptor.__get__") (.builtin "object.__class__")) := by
    cases od with
    | none => exact findObj_dataN (by rw [hcd]; rfl) T.cl T.gt T.tk
    | some o => exact findObj_data (by rw [hcd]; rfl) T.cl T.gt T.tk
  obtain ⟨hp, g, d, t, os⟩ := s
  have A0 := I.type (M := model prog w)
  have A1 := looks_findIn (M := model prog w) X T.xf.ga
  have A2 := looks_findIn (M := model prog w) X T.xf.gg
  have A3 := looks_find (M := model prog w) X I hf
  have A4 : Looks (model prog w) hp (isInstance (.ref x) (.type "BaseException")) true := A0.andThen (looks_subIn X T.xf.exC)
  have b2 : (Value.builtin "BaseException.__getattribute__" == Value.builtin "object.__getattribute__") = false := by decide +kernel
  have b1 : (onTheHeap (Value.ref D) && Value.builtin "BaseException.__getattribute__" == Value.builtin "object.__getattribute__") = false := by rw [b2]; rfl
  have b0 : (false && onTheHeap (Value.builtin "BaseException.__getattribute__")) = false := rfl
  unfold getAttr? getAttrBy? getAttrBy
  refine wpAny_bind (wpAny_mkText (wpAny_bind (wpAny_attempt (wpAny_holding (wpAny_bind (A0.at (wpAny_bind (A1.at ?_))))))))
  show wpAny _ _ (if (onTheHeap (Value.ref D) && Value.builtin "BaseException.__getattribute__" == Value.builtin "object.__getattribute__") = true then _ else _) _ _ _
  rw [b1, if_neg Bool.false_ne_true]
  unfold getAttrByItsOwn hookBefore
  refine wpAny_bind ?_
  rw [if_pos (show onTheHeap (Value.ref D) = true from rfl)]
  refine A2.at (wpAny_bind (wpAny_attempt (wpAny_holding ?_)))
  unfold callGetattribute
  rw [b0, if_neg Bool.false_ne_true]
  unfold boundAndCalled
  rw [PySem.F.excAttr_ValueError.ga.bind (.ref x)]
  refine wpAny_bind (wpAny_pure (wpAny_call (codeAny_call_builtin PySem.F.excAttr_ValueError.ga.plain PySem.F.entry_bexc_ga ?_)))
  refine @check_slot (model prog w) _ _ ⟨hp, g, d, t + 1, os⟩ "BaseException.__getattribute__" "BaseException" "__getattribute__" (.ref x) [.str "__class__" t] [] _ (by decide +kernel) (by decide +kernel) A4 (PySem.F.args_bexc_ga (.ref x) (.str "__class__" t)) ?_
  unfold Builtin.«object.__getattribute__»
  refine wpAny_bind (wpAny_of_eq (a := ((Value.ref x : Value), [Value.str "__class__" t])) (by first | rfl | (simp only [slotArgs]; rfl)) (wpAny_bind (wpAny_pure (wpAny_bind (A0.at (wpAny_bind (A3.at ?_)))))))
  refine wpAny_bind (wpAny_holding (wpAny_call (class_get (s := ⟨hp, g, d, t + 1, os⟩) (ox := ox) (od := od) X I T.mo ?_)))
  refine wpAny_pure ?_
  show wpAny _ _ (handedOut (.ref D)) _ _ _
  rw [handedOut_of (v := .ref D) rfl]
  first
    | exact wpAny_pure (wpAny_pure h)
    | exact wpAny_pure h
    | exact wpAny_pure (wpAny_bind (wpAny_pure (wpAny_pure h)))
theorem exv_kit (T : XvC K D) : KitX K (.ref x) (.ref D) (fun h => InstAt h x ox D od) where
  ty := fun _ _ _ I => I.type
  it := fun _ _ X _ => by
    obtain ⟨cdD, hcD, _⟩ := any_some T.xf.hdC
    unfold clsIn at hcD
    split at hcD
    · rename_i c' d' cd' sl' ho
      intro A' Q' E' s' k q
      unfold isType loadHead
      exact wpAny_bind (wpAny_loadPart (k _ _ (X _ _ ho)) (wpAny_pure q))
    · cases hcD
  ne := fun h tp dd its n sl X htp => by
    obtain ⟨cdD, hcD, _⟩ := any_some T.xf.hdC
    refine Bool.eq_false_iff.mpr fun q => ?_
    have e : D = tp := Value.ref.inj (beq_iff_eq.mp q)
    subst e
    unfold clsIn at hcD
    split at hcD
    · rename_i c' d' cd' sl' ho
      have z := (X _ _ ho).symm.trans htp
      cases z
    · cases hcD
  ca := fun X I k => exv_class T X I k
end
def ExvAt (H : Hp) (a C : Addr) (d : Option Addr) : Prop := H a = some (.ext (ExA C a d)) ∧ ∀ dd, d = some dd → ∃ l, H dd = some (.xd l)
theorem ExvAt.inst {X : Cx} {pins : List (Addr × Obj)} {σ : L2.St} {H : Hp} {s : Shared} {a C : Addr} {d : Option Addr} (I : Inv X pins σ H s) (z : ExvAt H a C d) : ∃ ox od, PySem.W.InstAt s.heap a ox C od ∧ (∀ dd, d = some dd → ∃ o, od = some o ∧ s.heap.get? dd = some o) := by
  obtain ⟨⟨oe, vs, e, z1, z2⟩, _, _⟩ := I.hok a _ z.1
  have no : PySem.W.notCls oe = true := by unfold PySem.W.notCls; rw [z2] <;> rfl
  cases d with
  | none => exact ⟨oe, none, ⟨e, z1.1, no, by rw [z1.2]; trivial⟩, fun _ z => nomatch z⟩
  | some dd =>
    obtain ⟨l, hl⟩ := z.2 dd rfl
    obtain ⟨mA, ⟨od, es, ep, e2, _⟩, _⟩ := I.hok dd _ hl
    exact ⟨oe, some od, ⟨e, z1.1, no, by rw [z1.2]; exact e2⟩, fun _ z => by cases z; exact ⟨od, rfl, e2⟩⟩
def rIsX (K : PySem.W.Frag) : List V → Hp → VK → Prop := fun xs H Q => ∃ a C d c cv b, xs = [.ref a, c] ∧ (∀ u, RelV c u → u = cv) ∧ ExvAt H a C d ∧ XvC K C ∧ PySem.W.kitOne K (.ref C) cv = some b ∧ Q (.bl b) H
theorem call_isX {X : Cx} : CallR X (.builtin "isinstance") (rIsX X.K) := by
  intro pins s σ H xs us Q I r h
  obtain ⟨a, C, d, c, cv, b, rfl, hcv, z, T, e, q⟩ := h
  obtain ⟨u1, u2, rfl, r1, r2⟩ := vals2 r
  cases (show u1 = Value.ref a from r1)
  have ec := hcv _ r2
  subst ec
  obtain ⟨ox, od, J, _⟩ := z.inst I
  exact PySem.W.kia_one (exv_kit T) I.kIn J e (fun y => nomatch y) fun tk => ⟨.bl b, H, I.tok tk, rfl, q⟩
def tXv (K : PySem.W.Frag) (f : Str) (te : TE) : TE := fun σ H Q => te σ H fun x H1 => ∃ a C dd l v, x = .ref a ∧ H1 a = some (.ext (ExA C a (some dd))) ∧ H1 dd = some (.xd l) ∧ XfC K C ∧ PySem.W.findIn K (.ref C) f = some none ∧ l.lookup f = some v ∧ Q v H1
theorem pe_xv {X : Cx} {e : Expr} {te : TE} {pos : Pos} {f : Str} (he : PE X e te) (hb : attributeBase e f X.env (eval e X.env) = eval e X.env := by rfl) : PE X (.Attribute e f pos) (tXv X.K f te) := by
  refine ⟨fun pins s σ H Q I h => attr_of hb (thn (he.run pins s σ H _ I h) fun u s1 hh => ?_)⟩
  obtain ⟨x, H1, I1, rx, a, C, dd, l, v, rfl, e1, e2, T, no, lk, q⟩ := hh
  obtain rfl : u = Value.ref a := rx
  obtain ⟨ox, od, J, hod⟩ := ExvAt.inst (d := some dd) I1 ⟨e1, fun _ z => by cases z; exact ⟨l, e2⟩⟩
  obtain ⟨o, rfl, ho⟩ := hod dd rfl
  obtain ⟨mA, hns, hr⟩ := I1.hok dd _ e2
  obtain ⟨od', ho', hl⟩ := lookIn_ns hns
  rw [ho] at ho'
  cases ho'
  obtain ⟨u, hu, ru⟩ := L2.RelO.some_of (v := v) (o := mA f) (by rw [← lk]; exact hr f)
  exact HandSPX.exc_get I1.kIn J T.ga T.gg T.exC (PySem.W.findObj_own T.hdC no rfl (by rw [hl, hu])) (handed_of ru) ⟨v, H1, I1.tok _, ru, q⟩
def isiX (D : EV) (cs : List (Addr × Bool)) (vs : List EV) (h : EH) (P : EK) : Prop := match vs with
  | [v, c] => c = D ∧ (match v with
    | .ref r => match h[r]? with
      | some (.exv C d) => (∀ q, d = some q → ∃ fs, h[q]? = some (.xob fs)) ∧ ∃ b, (C, b) ∈ cs ∧ P (.bl b) h
      | _ => False
    | _ => False)
  | _ => False
structure IsxC (K : PySem.W.Frag) (c : Value) (cs : List (Addr × Bool)) : Prop where
  ok : ∀ p ∈ cs, XvC K p.1 ∧ PySem.W.kitOne K (.ref p.1) c = some p.2
def isxB (K : PySem.W.Frag) (c : Value) (cs : List (Addr × Bool)) : Bool := cs.all fun p => xvB K p.1 && decide (PySem.W.kitOne K (.ref p.1) c = some p.2)
theorem isxB_ok {K : PySem.W.Frag} {c : Value} {cs : List (Addr × Bool)} (h : isxB K c cs = true) : IsxC K c cs := ⟨fun p hp => by
  have z := List.all_eq_true.mp h p hp
  obtain ⟨h1, h2⟩ := He.ba z
  exact ⟨xvB_ok h1, of_decide_eq_true h2⟩⟩
theorem exv_of {K : PySem.W.Frag} {m : Nat → Addr} {h : EH} {H : Hp} {r : Nat} {C : Addr} {d : Option Nat} (R : cC K m h H) (e : h[r]? = some (.exv C d)) (x : ∀ q, d = some q → ∃ fs, h[q]? = some (.xob fs)) : ExvAt H (m r) C (d.map m) := by
  obtain ⟨_, e1⟩ := R.obj _ _ e
  refine ⟨e1, fun dd z => ?_⟩
  cases d with
  | none => cases z
  | some q =>
    cases z
    obtain ⟨fs, e2⟩ := x q rfl
    obtain ⟨l, e3, _⟩ := R.obj _ _ e2
    exact ⟨l, e3⟩
theorem lc_isiX {X : Cx} {D : Addr} {cs : List (Addr × Bool)} (F : IsxC X.K (.ref D) cs) : nH X (.builtin "isinstance") (isiX (.adr D) cs) := by
  refine ⟨_, call_isX, fun m h H vs xs P Q R r0 q k => ?_⟩
  unfold isiX at q
  split at q
  · rename_i v c
    obtain ⟨x, y, rfl, r1, r2⟩ := r0.two_inv
    obtain ⟨rfl, q⟩ := q
    rw [aC] at r2
    subst r2
    split at q
    · rename_i r
      split at q
      · rename_i C d e
        obtain ⟨hx, b, hb, q⟩ := q
        rw [aC] at r1
        obtain ⟨_, rfl⟩ := r1
        obtain ⟨T, e2⟩ := F.ok _ hb
        exact ⟨_, _, _, _, _, b, rfl, fun _ z => z, exv_of R e hx, T, e2, k.same R q (by rw [aC])⟩
      · exact q.elim
    · exact q.elim
  · exact q.elim
theorem lc_isiXT {X : Cx} {D : String} {cs : List (Addr × Bool)} (F : IsxC X.K (.type D) cs) : nH X (.builtin "isinstance") (isiX (.ty D) cs) := by
  refine ⟨_, call_isX, fun m h H vs xs P Q R r0 q k => ?_⟩
  unfold isiX at q
  split at q
  · rename_i v c
    obtain ⟨x, y, rfl, r1, r2⟩ := r0.two_inv
    obtain ⟨rfl, q⟩ := q
    rw [aC] at r2
    subst r2
    split at q
    · rename_i r
      split at q
      · rename_i C d e
        obtain ⟨hx, b, hb, q⟩ := q
        rw [aC] at r1
        obtain ⟨_, rfl⟩ := r1
        obtain ⟨T, e2⟩ := F.ok _ hb
        exact ⟨_, _, _, _, _, b, rfl, fun _ z => z, exv_of R e hx, T, e2, k.same R q (by rw [aC])⟩
      · exact q.elim
    · exact q.elim
  · exact q.elim
def lXAt (cs : List Addr) (f : Str) (to : LT) : LT := fun env h P => to env h fun v h1 => match v with
  | .ref r => match h1[r]? with
    | some (.exv C (some q)) => C ∈ cs ∧ ∃ fs, h1[q]? = some (.xob fs) ∧ ∃ x, fs.lookup f = some x ∧ P x h1
    | _ => False
  | _ => False
structure XfAt (K : PySem.W.Frag) (cs : List Addr) (f : Str) : Prop where
  ok : ∀ C ∈ cs, XfC K C ∧ PySem.W.findIn K (.ref C) f = some none
def xfAtB (K : PySem.W.Frag) (cs : List Addr) (f : Str) : Bool := cs.all fun C => xfB K C && decide (PySem.W.findIn K (.ref C) f = some none)
theorem xfAtB_ok {K : PySem.W.Frag} {cs : List Addr} {f : Str} (h : xfAtB K cs f = true) : XfAt K cs f := ⟨fun p hp => by
  have z := List.all_eq_true.mp h p hp
  obtain ⟨h1, h2⟩ := He.ba z
  exact ⟨xfB_ok h1, of_decide_eq_true h2⟩⟩
theorem le_xattr {X : Cx} {e : Expr} {te : LT} {f : Str} {pos : Pos} {cs : List Addr} (T : XfAt X.K cs f) (he : LE X e te) (hb : attributeBase e f X.env (eval e X.env) = eval e X.env := by rfl) : LE X (.Attribute e f pos) (lXAt cs f te) := by
  refine ⟨PE.imp (pe_xv he.pe hb) fun σ H Q ⟨m, env, h, P, at_, t1, k⟩ => ⟨m, env, h, _, at_, t1, fun v h1 p1 m1 H1 x E1 R1 r1 => ?_⟩⟩
  split at p1
  · rename_i r
    rw [aC] at r1
    obtain ⟨_, rfl⟩ := r1
    split at p1
    · rename_i C q e1
      obtain ⟨hc, fs, e2, y, lk, p1⟩ := p1
      obtain ⟨_, e3⟩ := R1.obj _ _ e1
      obtain ⟨l, e4, rf⟩ := R1.obj _ _ e2
      obtain ⟨w, lw, rw'⟩ := rf.look lk
      exact ⟨_, C, _, l, w, rfl, e3, e4, (T.ok C hc).1, (T.ok C hc).2, lw, k _ _ p1 m1 H1 _ E1 R1 rw'⟩
    · exact p1.elim
  · exact p1.elim
theorem track {X : Cx} {pins : List (Addr × Obj)} {σ : L2.St} {H : Hp} {s : Shared} {a C : Addr} {d : Option Addr} {oe : Obj} {vs : Array Value} (I : Inv X pins σ H s) (ha : s.heap.get? a = some oe) (hz : Zc (.ref C) d oe) (hd : oe.data = .fields vs) (na : H a = none) (nL : a ≠ X.env.locals)
    (n0 : X.s_0.heap.get? a = none) (np : ∀ p ∈ X.pn ++ pins, p.1 ≠ a) : Inv X pins σ (upd H a (.ext (ExA C a d))) s := by
  have nb : ∀ b, X.s_0.heap.get? b ≠ none → b ≠ a := fun b z y => z (by rw [y]; exact n0)
  refine ⟨I.ok, I.os, I.bare, ⟨I.base.keep, I.base.slot, fun b o e n hx => ?_, I.base.there, fun b xs e => ?_, fun b o u e => ?_, fun b ps e => ?_⟩, I.loc, I.cell, ?_, fun x c e => ?_, fun p hp => ?_, fun b u e => ?_, I.len⟩
  · rw [upd_ne (nb b (by rw [e]; exact fun z => nomatch z))]
    exact I.base.free b o e n hx
  · have q := I.base.tups b xs e
    rw [upd_ne (ne_of_none q na)]; exact q
  · have q := I.base.frzs b o u e
    rw [upd_ne (ne_of_none q na)]; exact q
  · obtain ⟨more, q⟩ := I.base.tbls b ps e
    exact ⟨more, by rw [upd_ne (ne_of_none q na)]; exact q⟩
  · rw [upd_ne (Ne.symm nL)]; exact I.free
  · have nc : c ≠ a := by
      rintro rfl
      obtain ⟨v, o, ho, hv⟩ := I.cell x c e
      rw [ha] at ho
      cases ho
      rw [hd] at hv
      cases hv
    rw [upd_ne nc]; exact I.freeC x c e
  · obtain ⟨p1, p2, p3, p4, p5⟩ := I.pin p hp
    exact ⟨p1, by rw [upd_ne (np p hp)]; exact p2, p3, p4, p5⟩
  · by_cases hb : b = a
    · subst hb
      rw [upd_same] at e
      cases e
      exact ⟨⟨oe, vs, ha, hz, hd⟩, ⟨oe, ha⟩, fun h1 h2 ⟨o, v, q, r⟩ k => ⟨o, v, k o q, r⟩⟩
    · rw [upd_ne hb] at e
      exact (I.hok b u e).stay (fun c v _ q => q) (fun c q => by rw [upd_ne (ne_of_none q na)]; exact q) fun c xs q => by rw [upd_ne (ne_of_none q na)]; exact q
theorem suite0 {X : Cx} {pins : List (Addr × Obj)} {σ : L2.St} {H : Hp} {s : Shared} (I : Inv X pins σ H s) (a : Addr) : Inv (X.suite a (X.pn ++ pins)) [] σ H s :=
  ⟨I.ok.suite _ _, I.os, I.bare, I.base, I.loc, I.cell, I.free, I.freeC, fun p hp => I.pin p (by rw [List.append_nil] at hp; exact hp), I.hok, I.len⟩
theorem unsuite0 {X : Cx} {pins : List (Addr × Obj)} {σ : L2.St} {H : Hp} {s : Shared} {a : Addr} (I : Inv (X.suite a (X.pn ++ pins)) [] σ H s) (ok : X.Ok) : Inv X pins σ H s :=
  ⟨ok, I.os, I.bare, I.base, I.loc, I.cell, I.free, I.freeC, fun p hp => I.pin p (List.mem_append_left _ hp), I.hok, I.len⟩
def wVal (K : PySem.W.Frag) (D : Ends) : List (Value × Option Nat × TS) → WX
  | [] => fun _ _ _ _ => False
  | (c, some i, ts) :: r => fun cls d σ H => ∃ b, PySem.W.exmOne K cls c = some b ∧ (b = true → ∃ C, cls = .ref C ∧ ∀ a, H a = none → ts (outOf D i) (σ.set i (some (.ref a))) (upd H a (.ext (ExA C a d)))) ∧ (b = false → wVal K D r cls d σ H)
  | (c, none, ts) :: r => fun cls d σ H => ∃ b, PySem.W.exmOne K cls c = some b ∧ (b = true → ts D σ H) ∧ (b = false → wVal K D r cls d σ H)
inductive HdsV (X : Cx) : List ExceptHandler → List (Value × Option Nat × TS) → Prop
  | nil {hds : List ExceptHandler} : HdsV X hds []
  | named {x n : Str} {c : Value} {i : Nat} {ts : TS} {b₀ : Stmt} {suite : List Stmt} {np pos' : Pos} {hds : List ExceptHandler} {l : List (Value × Option Nat × TS)} (hc : Names X x c) (hi : X.N[i]? = some n) (hl : X.env.kindOf n = some .local)
      (su : ∀ (a : Addr) (pn : List (Addr × Obj)), PSs (X.suite a pn) (b₀ :: suite) ts) (r : HdsV X hds l) : HdsV X (.ExceptHandler (some (.Name x np)) (some n) (b₀ :: suite) pos' :: hds) ((c, some i, ts) :: l)
  | plain {x : Str} {c : Value} {ts : TS} {b₀ : Stmt} {suite : List Stmt} {np pos' : Pos} {hds : List ExceptHandler} {l : List (Value × Option Nat × TS)} (hc : Names X x c)
      (su : ∀ (a : Addr) (pn : List (Addr × Obj)), PSs (X.suite a pn) (b₀ :: suite) ts) (r : HdsV X hds l) : HdsV X (.ExceptHandler (some (.Name x np)) none (b₀ :: suite) pos' :: hds) ((c, none, ts) :: l)
section
variable {X : Cx}
theorem clausesV {pins : List (Addr × Obj)} {σ : L2.St} {H : Hp} {sI s' : Shared} {a : Addr} {B : Heap} {cls : Value} {d : Option Addr} {D : Ends} {h3 : Heap} (hs : X.stack = X.env :: X.outer) (hf : X.env.frame = some X.env.locals) (hN : X.N.Nodup) (hx : X.ex = [])
    (J : Inv X pins σ H sI) (nb : ∀ b o, sI.heap.get? b = some o → b ∉ frs X.stack → B.get? b = some o) (up3 : sI.heap.UpToSlots h3) (fl3 : HandSPX.FlyingZ B (X.env :: X.outer) a (Zc cls d) h3) (na : H a = none) (os : s'.os = sI.os) (ag : AllBare s'.gens) :
    ∀ {hds : List ExceptHandler} {l : List (Value × Option Nat × TS)}, HdsV X hds l → wVal X.K D l cls d σ H → wpAny (model X.prog X.w) X.A (handleBy (.ref a) X.env hds) (SP X pins D) X.xe { s' with heap := h3 } := by
  have nofr : ∀ {h : Heap} {o : Obj} {vs : Array Value}, h.FunFrames B (X.env :: X.outer) → h.get? a = some o → o.data = .fields vs → a ∉ frs (X.env :: X.outer) := by
    intro h o vs ff z dd hm
    obtain ⟨_, o', z', hnf⟩ := ff.mem hm
    rw [z] at z'
    exact hnf vs (by cases z'; exact dd)
  obtain ⟨oe3, vs3, he3, hz3, hd3⟩ := fl3.there
  have nf := nofr fl3.2.2.1 he3 hd3
  have nL : a ≠ X.env.locals := fun z => nf (List.mem_filterMap.mpr ⟨X.env, by simp, by rw [hf, z]⟩)
  have nI : sI.heap.get? a = none := by
    cases e : sI.heap.get? a with
    | none => rfl
    | some o =>
      have z := nb a o e (by rw [hs]; exact nf)
      rw [fl3.2.1] at z
      cases z
  have n0 : X.s_0.heap.get? a = none := by
    cases e : X.s_0.heap.get? a with
    | none => rfl
    | some o =>
      obtain ⟨o', z⟩ := J.base.there a o e (by rw [hx]; exact fun z => nomatch z)
      rw [nI] at z
      cases z
  have np : ∀ p ∈ X.pn ++ pins, p.1 ≠ a := fun p hp z => by
    have q := (J.pin p hp).1
    rw [z, nI] at q
    cases q
  have J3 : Inv X pins σ H { s' with heap := h3 } := J.landed nb fl3.1 up3 os ag
  have nF : a ∉ X.fs := fun hm => by
    obtain ⟨env', he', z⟩ := List.mem_filterMap.mp hm
    exact nf (List.mem_filterMap.mpr ⟨env', by simp [he'], z⟩)
  have S3 := J3.suite he3 hd3 na nL nF
  have cl : PySem.W.Looks (model X.prog X.w) h3 (typeOf (.ref a)) cls := fun _ _ _ _ k z => wpAny_typeOf_ref (k _ _ he3) (by rw [hz3.1]; exact z)
  have named : ∀ {Q E : Value → Shared → Prop} {x : Str} {c : Value} {np : Pos}, Names X x c → Q c { s' with heap := h3 } → wpAny (model X.prog X.w) (X.A.mark (some (.ref a))) (eval (.Name x np) X.env) Q E { s' with heap := h3 } := by
    intro Q E x c np hc z
    obtain ⟨hg, hdb, e | ⟨e, hv, hnn⟩⟩ := hc
    · exact ld_glob (X := X.suite a ((a, oe3) :: (X.pn ++ pins))) S3 hg e z hdb
    · exact ld_blt (X := X.suite a ((a, oe3) :: (X.pn ++ pins))) S3 hg e hv z hnn hdb
  intro hds l hk
  induction hk with
  | nil => exact fun w => w.elim
  | @named x n c i ts b₀ suite np' pos' hds l hc hi hl su _ ih =>
    intro w
    obtain ⟨b, hb, hyes, hno⟩ := w
    refine wpAny_handleBy_cons (codeAny_handlers_test (named hc ((PySem.W.exm_one (M := model X.prog X.w) J3.kIn cl hb).here ?_))) (by intro z; cases z)
    cases b with
    | false => exact ih (hno rfl)
    | true =>
      obtain ⟨C, rfl, hyes2⟩ := hyes rfl
      refine codeAny_handlers_suite_as (HandSPX.lands_againZ fl3 fun h4 fl4 up4 => ?_)
      obtain ⟨oe4, vs4, he4, hz4, hd4⟩ := fl4.there
      have J4 : Inv X pins σ H { s' with heap := h4 } := J.landed nb fl4.1 (up3.trans up4) os ag
      have S4 := suite0 (track J4 he4 hz4 hd4 na nL n0 np) a
      refine store_ok (X := X.suite a (X.pn ++ pins)) (v := .ref a) S4 hN hi (.inl hl) rfl (fun s5 S5 => ?_) (.inr hl)
      have run := (su a (X.pn ++ pins)).run [] s5 _ _ _ S5 (hyes2 a na)
      have ends : ∀ {σ6 : L2.St} {H6 : Hp} {s6 : Shared} {Q : Shared → Prop}, Inv (X.suite a (X.pn ++ pins)) [] σ6 H6 s6 → (∀ s7, Inv X pins (σ6.set i none) H6 s7 → Q s7) →
          wpAny (model X.prog X.w) X.A (do bindName X.env n .none; unbindBehindTheSuite X.env n pos') (fun _ s7 => Q s7) X.xe s6 := fun S6 z => gone_ok (unsuite0 S6 J.ok) hN hi hl z
      refine wpAny_mono run (fun fl s6 z => ?_) (fun _ _ z => False.elim z)
      match fl, z with
      | .ret u, ⟨v6, σ6, H6, S6, r6, q6⟩ => exact ends S6 fun s7 J7 => ⟨_, _, _, J7, r6, q6⟩
      | .next, ⟨σ6, H6, S6, q6⟩ => exact ends S6 fun s7 J7 => ⟨_, _, J7, q6⟩
      | .brk, ⟨σ6, H6, S6, q6⟩ => exact ends S6 fun s7 J7 => ⟨_, _, J7, q6⟩
      | .cont, ⟨σ6, H6, S6, q6⟩ => exact ends S6 fun s7 J7 => ⟨_, _, J7, q6⟩
  | @plain x c ts b₀ suite np' pos' hds l hc su _ ih =>
    intro w
    obtain ⟨b, hb, hyes, hno⟩ := w
    refine wpAny_handleBy_cons (codeAny_handlers_test (named hc ((PySem.W.exm_one (M := model X.prog X.w) J3.kIn cl hb).here ?_))) (by intro z; cases z)
    cases b with
    | false => exact ih (hno rfl)
    | true =>
      refine codeAny_handlers_suite (HandSPX.lands_againZ fl3 fun h4 fl4 up4 => ?_)
      have J4 : Inv X pins σ H { s' with heap := h4 } := J.landed nb fl4.1 (up3.trans up4) os ag
      have run := (su a (X.pn ++ pins)).run [] _ _ H _ (suite0 J4 a) (hyes rfl)
      refine wpAny_mono run (fun fl s6 z => ?_) (fun _ _ z => False.elim z)
      match fl, z with
      | .ret u, ⟨v6, σ6, H6, S6, r6, q6⟩ => exact ⟨_, _, _, unsuite0 S6 J.ok, r6, q6⟩
      | .next, ⟨σ6, H6, S6, q6⟩ => exact ⟨_, _, unsuite0 S6 J.ok, q6⟩
      | .brk, ⟨σ6, H6, S6, q6⟩ => exact ⟨_, _, unsuite0 S6 J.ok, q6⟩
      | .cont, ⟨σ6, H6, S6, q6⟩ => exact ⟨_, _, unsuite0 S6 J.ok, q6⟩
theorem ps_tryV {body : List Stmt} {h₀ : ExceptHandler} {hds : List ExceptHandler} {l : List (Value × Option Nat × TS)} {pos : Pos} {tb : WX → TS} (hs : X.stack = X.env :: X.outer) (hf : X.env.frame = some X.env.locals) (hN : X.N.Nodup) (hx : X.ex = [])
    (hb : ∀ (W : WX) (pn : List (Addr × Obj)) (xe : Value → Shared → Prop), Takes (X.tr pn xe) W → PassesOwn (model X.prog X.w) X.A X.env xe → PSs (X.tr pn xe) body (tb W))
    (hh : HdsV X (h₀ :: hds) l) : PS X (.Try body (h₀ :: hds) [] [] pos) (fun D σ H => tb (wVal X.K D l) D σ H) := by
  refine ⟨fun pins s σ H D I h => wpAny_Try_except ?_⟩
  have ok := I.ok
  have fr2 : X.A.frames = some (X.env :: X.outer) := by rw [ok.frames, hs]
  have caught : Takes (X.tr (X.pn ++ pins) fun e s₁ => wpAny (model X.prog X.w) X.A (noteFrame e X.env) (fun _ s₂ => wpAny (model X.prog X.w) X.A (setFlight e none) (fun _ s₃ =>
      wpAny (model X.prog X.w) X.A (handleBy e X.env (h₀ :: hds)) (SP X pins D) X.xe s₃) X.xe s₂) X.xe s₁) (wVal X.K D l) := by
    rintro u s' ⟨a, B, sI, pins', σ', H', cls, d, rfl, J', nb, up, sky, na, os, ag, w⟩
    have sky' : Sky B (X.env :: X.outer) a (Zc cls d) X.env.locals s'.heap := by rw [← hs]; exact sky
    refine Sky.land Zc.steady fr2 hf sky' fun h3 fl3 up3 => ?_
    exact clausesV hs hf hN hx (J'.ofTry ok) nb (up.trans up3) fl3 na os ag hh w
  refine wpAny_mono ((hb _ (X.pn ++ pins) _ caught PassesOwn.looking).run [] s σ H D (I.toTry _) h) (fun fl s1 z => ?_) (fun e s1 z => z)
  match fl, z with
  | .next, ⟨σ', H', J', q⟩ => exact wpAny_execs_nil ⟨σ', H', J'.ofTry ok, q⟩
  | .brk, ⟨σ', H', J', q⟩ => exact ⟨σ', H', J'.ofTry ok, q⟩
  | .cont, ⟨σ', H', J', q⟩ => exact ⟨σ', H', J'.ofTry ok, q⟩
  | .ret u, ⟨v, σ', H', J', r, q⟩ => exact ⟨v, σ', H', J'.ofTry ok, r, q⟩
end
def outE (D : qm) (i : Nat) : qm := { nx := fun env h => D.nx (env.set i none) h, rt := D.rt, bk := fun env h => D.bk (env.set i none) h, ct := fun env h => D.ct (env.set i none) h }
def XTail (C : Addr) (fs : List (Str × EV)) (n : Nat) (es : EH) (r : Nat) : Prop := (es = [.xob fs, .exv C (some n)] ∧ r = n + 1) ∨ (fs = [] ∧ es = [.exv C none] ∧ r = n)
structure VC where
  cls : Addr
  cs : List Addr
  nm : Option Nat
  t : LS
def wV (D : qm) : List VC → EW
  | [] => fun _ _ _ _ => False
  | c :: r => fun C fs env h => (C ∈ c.cs ∧ match c.nm with
    | none => c.t D env h
    | some i => ∀ es q, XTail C fs h.length es q → c.t (outE D i) (env.set i (some (.ref q))) (h ++ es)) ∨ wV D r C fs env h
def lTryV (tb : EW → LS) (L : List VC) : LS := fun D env h => ∀ mk, isF mk = true → tb (fun C fs env' h' => h'[h.length]? = some mk ∧ wV D L C fs env' h') D env (h ++ [mk])
def exclV (K : PySem.W.Frag) : List (Addr × List Addr) → Bool
  | [] => true
  | c :: r => (c.2.all fun C => decide (PySem.W.exmOne K (.ref C) (.ref c.1) = some true)) && ((r.all fun e => e.2.all fun C => decide (PySem.W.exmOne K (.ref C) (.ref c.1) = some false)) && exclV K r)
def VC.key (c : VC) : Addr × List Addr := (c.cls, c.cs)
def VC.hand (K : PySem.W.Frag) (c : VC) : Value × Option Nat × TS := (.ref c.cls, c.nm, upS K c.t)
section
variable {K : PySem.W.Frag} {m m' : Nat → Addr} {n n' : Nat} {H H' : Hp} {h h' : EH}
theorem cC.see {dx : Addr} {l : List (Str × V)} {fs : List (Str × EV)} (R : cC K m h H) (hd : H dx = some (.xd l)) (rf : qZ K m h.length H fs l) : cC K (oU m h.length dx) (h ++ [.xob fs]) H ∧ Ex K m h.length H (oU m h.length dx) (h ++ [EO.xob fs]).length H := by
  have E : Ex K m h.length H (oU m h.length dx) (h ++ [EO.xob fs]).length H := ⟨by simp, fun r hr => nY hr, fun _ _ z => z, fun _ _ z => z⟩
  refine ⟨⟨fun r u hr => ?_, fun r q u v hr hq fu fv z => ?_⟩, E⟩
  · rcases lU hr with ⟨q, hr⟩ | ⟨rfl, rfl⟩
    · rw [nY q]
      exact (R.obj r u hr).ex E rfl fun b => ⟨id, id⟩
    · rw [jx]
      exact ⟨l, hd, qZ.ex E _ _ rf⟩
  · rcases lU hr with ⟨a, hr'⟩ | ⟨a, a'⟩
    · rcases lU hq with ⟨b, hq'⟩ | ⟨b, b'⟩
      · rw [nY a, nY b] at z; exact R.inj r q u v hr' hq' fu fv z
      · rw [b'] at fv; cases fv
    · rw [a'] at fu; cases fu
theorem wV_mem {D : qm} {C : Addr} {fs : List (Str × EV)} {env : En} : ∀ {L : List VC}, wV D L C fs env h' → ∃ c ∈ L, C ∈ c.cs
  | [], q => q.elim
  | c :: r, q => by
    rcases q with ⟨e, _⟩ | q
    · exact ⟨_, List.mem_cons_self .., e⟩
    · obtain ⟨c, hc, e⟩ := wV_mem q
      exact ⟨c, List.mem_cons_of_mem _ hc, e⟩
theorem qb.set1 {env : En} {σ : L2.St} {i : Nat} {v : EV} {x : V} (R : qb K m n H env σ) (r : aC K m n H v x) : qb K m n H (env.set i (some v)) (σ.set i (some x)) := by
  refine ⟨by simp [R.1], fun j w hj => ?_⟩
  by_cases z : i = j
  · subst z
    have hl : i < env.length := by
      have := (List.getElem?_eq_some_iff.mp hj).1
      simpa using this
    rw [List.getElem?_set_self hl] at hj
    cases hj
    exact ⟨x, List.getElem?_set_self (by rw [← R.1]; exact hl), r⟩
  · rw [List.getElem?_set_ne z] at hj
    obtain ⟨y, ey, ry⟩ := R.2 j w hj
    exact ⟨y, by rw [List.getElem?_set_ne z]; exact ey, ry⟩
theorem qb.set0 {env : En} {σ : L2.St} {i : Nat} (R : qb K m n H env σ) : qb K m n H (env.set i none) (σ.set i none) := by
  refine ⟨by simp [R.1], fun j w hj => ?_⟩
  by_cases z : i = j
  · subst z
    have hl : i < env.length := by
      have := (List.getElem?_eq_some_iff.mp hj).1
      simpa using this
    rw [List.getElem?_set_self hl] at hj
    cases hj
  · rw [List.getElem?_set_ne z] at hj
    obtain ⟨y, ey, ry⟩ := R.2 j w hj
    exact ⟨y, by rw [List.getElem?_set_ne z]; exact ey, ry⟩
theorem KonE.out {P : qm} {D : Ends} (k : KonE K m n H P D) (i : Nat) : KonE K m n H (outE P i) (outOf D i) :=
  ⟨fun env' h' p m' H' σ' E a => k.nx _ _ p m' H' _ E ⟨a.hp, a.nm.set0⟩, k.rt, fun env' h' p m' H' σ' E a => k.bk _ _ p m' H' _ E ⟨a.hp, a.nm.set0⟩, fun env' h' p m' H' σ' E a => k.ct _ _ p m' H' _ E ⟨a.hp, a.nm.set0⟩⟩
theorem wV_sim {P : qm} {D : Ends} {C : Addr} {d : Option Addr} {fs : List (Str × EV)} {env : En} {σ : L2.St} (k : KonE K m' h'.length H' P D) (a' : At K env h' m' σ H') (df : DFs K m' h'.length H' d fs) :
    ∀ {L : List VC}, exclV K (L.map VC.key) = true → wV P L C fs env h' → wVal K D (L.map (VC.hand K)) (.ref C) d σ H'
  | [], _, q => q.elim
  | c :: r, ex, q => by
    obtain ⟨c1, cs, nm, t⟩ := c
    rw [List.map_cons] at ex
    unfold exclV at ex
    obtain ⟨x1, ex⟩ := He.ba ex
    obtain ⟨x2, x3⟩ := He.ba ex
    rcases q with ⟨hc, q⟩ | q
    · have hb := of_decide_eq_true (List.all_eq_true.mp x1 C hc)
      cases nm with
      | none => exact ⟨true, hb, fun _ => ⟨m', env, h', P, a', q, k⟩, fun z => nomatch z⟩
      | some i =>
        refine ⟨true, hb, fun _ => ⟨C, rfl, fun a na => ?_⟩, fun z => nomatch z⟩
        rcases df with ⟨dx, l, rfl, hd, rf⟩ | ⟨rfl, rfl⟩
        · obtain ⟨R1, E1⟩ := a'.hp.see hd rf
          have lt : h'.length < (h' ++ [EO.xob fs]).length := by simp
          have R2 : cC K (oU (oU m' h'.length dx) (h' ++ [EO.xob fs]).length a) ((h' ++ [EO.xob fs]) ++ [.exv C (some h'.length)]) (upd H' a (.ext (ExA C a (some dx)))) := R1.new na
            ⟨fun q z => by cases z; simp, by rw [upd_same]; simp only [Option.map_some, nY lt, jx]⟩
          have E2 : Ex K (oU m' h'.length dx) (h' ++ [EO.xob fs]).length H' (oU (oU m' h'.length dx) (h' ++ [EO.xob fs]).length a) ((h' ++ [EO.xob fs]) ++ [EO.exv C (some h'.length)]).length (upd H' a (.ext (ExA C a (some dx)))) := Ex.new na
          have E := E1.trans E2
          have e : h' ++ [EO.xob fs, .exv C (some h'.length)] = (h' ++ [EO.xob fs]) ++ [.exv C (some h'.length)] := by simp
          refine ⟨_, _, _, outE P i, ⟨R2, qb.set1 (v := .ref (h'.length + 1)) (a'.nm.ex E) ?_⟩, ?_, (k.ex E).out i⟩
          · rw [aC]
            refine ⟨by simp, ?_⟩
            rw [show h'.length + 1 = (h' ++ [EO.xob fs]).length from by simp, jx]
          · have z := q _ _ (.inl ⟨rfl, rfl⟩)
            rw [e] at z
            exact z
        · have R2 : cC K (oU m' h'.length a) (h' ++ [.exv C none]) (upd H' a (.ext (ExA C a none))) := a'.hp.new na ⟨fun q z => (nomatch z), upd_same⟩
          have E : Ex K m' h'.length H' (oU m' h'.length a) (h' ++ [EO.exv C none]).length (upd H' a (.ext (ExA C a none))) := Ex.new na
          refine ⟨_, _, _, outE P i, ⟨R2, qb.set1 (v := .ref h'.length) (a'.nm.ex E) ?_⟩, q _ _ (.inr ⟨rfl, rfl, rfl⟩), (k.ex E).out i⟩
          rw [aC]
          exact ⟨by simp, by rw [jx]⟩
    · obtain ⟨e, he, hC⟩ := wV_mem q
      cases nm <;> refine ⟨false, of_decide_eq_true (List.all_eq_true.mp (List.all_eq_true.mp x2 _ (List.mem_map_of_mem (f := VC.key) he)) C hC), fun z => absurd z Bool.false_ne_true, fun _ => wV_sim k a' df x3 q⟩
end
section
variable {X : Cx}
inductive HdsW (X : Cx) : List ExceptHandler → List VC → Prop
  | nil {hds : List ExceptHandler} : HdsW X hds []
  | named {x n : Str} {C : Addr} {Cs : List Addr} {i : Nat} {t : LS} {b₀ : Stmt} {suite : List Stmt} {np pos' : Pos} {hds : List ExceptHandler} {L : List VC} (hc : Names X x (.ref C)) (hi : X.N[i]? = some n) (hl : X.env.kindOf n = some .local)
      (su : ∀ (a : Addr) (pn : List (Addr × Obj)), LSs (X.suite a pn) (b₀ :: suite) t) (r : HdsW X hds L) :
      HdsW X (.ExceptHandler (some (.Name x np)) (some n) (b₀ :: suite) pos' :: hds) (⟨C, Cs, some i, t⟩ :: L)
  | plain {x : Str} {C : Addr} {Cs : List Addr} {t : LS} {b₀ : Stmt} {suite : List Stmt} {np pos' : Pos} {hds : List ExceptHandler} {L : List VC} (hc : Names X x (.ref C))
      (su : ∀ (a : Addr) (pn : List (Addr × Obj)), LSs (X.suite a pn) (b₀ :: suite) t) (r : HdsW X hds L) :
      HdsW X (.ExceptHandler (some (.Name x np)) none (b₀ :: suite) pos' :: hds) (⟨C, Cs, none, t⟩ :: L)
theorem HdsW.hand {hds : List ExceptHandler} {L : List VC} (h : HdsW X hds L) : HdsV X hds (L.map (VC.hand X.K)) := by
  induction h with
  | nil => exact .nil
  | named hc hi hl su _ ih => exact .named hc hi hl (fun a pn => (su a pn).pss) ih
  | plain hc su _ ih => exact .plain hc (fun a pn => (su a pn).pss) ih
theorem ls_tryV {body : List Stmt} {h₀ : ExceptHandler} {hds : List ExceptHandler} {L : List VC} {pos : Pos} {tb : EW → LS} (hs : X.stack = X.env :: X.outer) (hf : X.env.frame = some X.env.locals) (hN : X.N.Nodup) (hx : X.ex = [])
    (hb : ∀ (W : EW) (pn : List (Addr × Obj)) (xe : Value → Shared → Prop), Takes (X.tr pn xe) (upX X.K W) → PassesOwn (model X.prog X.w) X.A X.env xe → LSs (X.tr pn xe) body (tb W))
    (hh : HdsW X (h₀ :: hds) L) (ex : exclV X.K (L.map VC.key) = true) : LSt X (.Try body (h₀ :: hds) [] [] pos) (lTryV tb L) := by
  have hand := ps_tryV (X := X) (body := body) (pos := pos) (tb := fun W D σ H => ∃ W' : EW, (∀ c d σ H, upX X.K W' c d σ H → W c d σ H) ∧ upS X.K (tb W') D σ H) hs hf hN hx
    (fun W pn xe tk po => ⟨fun pins s σ H D I ⟨W', im, q⟩ => (hb W' pn xe (tk.imp im) po).pss.run pins s σ H D I q⟩) hh.hand
  refine ⟨PS.imp hand fun D σ H ⟨m, env, h, P, at_, t1, k⟩ => ?_⟩
  have E0 : Ex X.K m h.length H m (h ++ [EO.mark m h.length H]).length H := Ex.mark
  refine ⟨fun C fs env' h' => h'[h.length]? = some (.mark m h.length H) ∧ wV P L C fs env' h', ?_, m, env, h ++ [EO.mark m h.length H], P, at_.mark, t1 _ rfl, k.ex E0⟩
  rintro cls d σ' H' ⟨m', env', h', C, fs, a', rfl, df, hmk, w⟩
  exact wV_sim (k.ex (a'.hp.marked hmk)) a' df ex w
end
def SamE : Nat → EV → Prop
  | 0, v => (∀ xs, v ≠ .tup xs) ∧ ∀ xs, v ≠ .ktup xs
  | n + 1, v => ∀ xs, (v = .tup xs ∨ v = .ktup xs) → ∀ x ∈ xs, SamE n x
inductive SamV (K : PySem.W.Frag) (H : Hp) : Nat → V → V → Prop
  | flat {n : Nat} {x : V} : flatB x = true → SamV K H n x x
  | ref {n : Nat} {a : Addr} : SamV K H n (.ref a) (.ref a)
  | ty {n : Nat} {t : String} : SamV K H n (.ty t) (.ty t)
  | tup {n : Nat} {a b : Addr} {xs ys : List V} : SqT K H a xs → SqT K H b ys → xs.length = ys.length → (∀ (i : Nat) (x y : V), xs[i]? = some x → ys[i]? = some y → SamV K H n x y) → SamV K H (n + 1) (.ref a) (.ref b)
  | lst {n : Nat} {a b : Addr} {xs ys : List V} : SqL K H a xs → SqL K H b ys → xs.length = ys.length → (∀ (i : Nat) (x y : V), xs[i]? = some x → ys[i]? = some y → SamV K H n x y) → SamV K H (n + 1) (.ref a) (.ref b)
theorem SamV.eq {X : Cx} {pins : List (Addr × Obj)} {σ : L2.St} {H : Hp} {s : Shared} (I : Inv X pins σ H s) : ∀ (n : Nat) {A : Around} {x y : V} {v u : Value}, A.units + n < cLine → SamV X.K H n x y → RelV x v → RelV y u → PySem.SeqAt.EqAt A s v u true
  | n, A, x, y, v, u, hu, h, rx, ry => by
    cases h with
    | flat f => exact eqAt_same rx ry f
    | ref => cases (show v = Value.ref _ from rx); cases (show u = Value.ref _ from ry); exact PySem.SeqAt.EqAt.same _
    | ty => cases (show v = Value.type _ from rx); cases (show u = Value.type _ from ry); exact PySem.SeqAt.EqAt.same _
    | @tup n a b xs ys ha hb hl it =>
      cases (show v = Value.ref a from rx)
      cases (show u = Value.ref b from ry)
      by_cases e : a = b
      · subst e; exact PySem.SeqAt.EqAt.same _
      · obtain ⟨us, r1, p1, _⟩ := I.tuple ha
        obtain ⟨ws, r2, p2, _⟩ := I.tuple hb
        have l1 := r1.length
        have l2 := r2.length
        refine .of_refs e ?_
        have q := PySem.SeqAt.RcAt.tuples (A := A) (e := fun _ => true) p1 p2 (by omega) fun j h1 h2 => by
          have j1 : j < us.length := by simpa using h1
          have j2 : j < ws.length := by simpa using h2
          obtain ⟨w1, e1, q1⟩ := r1.get (List.getElem?_eq_getElem (show j < xs.length by omega))
          obtain ⟨w2, e2, q2⟩ := r2.get (List.getElem?_eq_getElem (show j < ys.length by omega))
          have z := SamV.eq I n (A := A.in1) (by show A.units + 1 + n < cLine; omega) (it j _ _ (List.getElem?_eq_getElem (by omega)) (List.getElem?_eq_getElem (by omega))) q1 q2
          rw [List.getElem?_eq_getElem j1] at e1
          rw [List.getElem?_eq_getElem j2] at e2
          cases e1; cases e2
          simpa using z
        have e2 : ((List.range (min us.toArray.size ws.toArray.size)).all (fun _ => true) && us.toArray.size == ws.toArray.size) = true := by
          simp [← l1, ← l2, hl]
        rw [e2] at q
        exact q
    | @lst n a b xs ys ha hb hl it =>
      cases (show v = Value.ref a from rx)
      cases (show u = Value.ref b from ry)
      by_cases e : a = b
      · subst e; exact PySem.SeqAt.EqAt.same _
      · obtain ⟨us, r1, p1, _⟩ := I.list ha
        obtain ⟨ws, r2, p2, _⟩ := I.list hb
        have l1 := r1.length
        have l2 := r2.length
        refine .of_refs e ?_
        have q := PySem.SeqAt.RcAt.lists (A := A) (e := fun _ => true) p1.isList p2.isList (by simp; omega) (by omega) fun j h1 h2 => by
          have j1 : j < us.length := by simpa using h1
          have j2 : j < ws.length := by simpa using h2
          obtain ⟨w1, e1, q1⟩ := r1.get (List.getElem?_eq_getElem (show j < xs.length by omega))
          obtain ⟨w2, e2, q2⟩ := r2.get (List.getElem?_eq_getElem (show j < ys.length by omega))
          have z := SamV.eq I n (A := A.in1) (by show A.units + 1 + n < cLine; omega) (it j _ _ (List.getElem?_eq_getElem (by omega)) (List.getElem?_eq_getElem (by omega))) q1 q2
          rw [List.getElem?_eq_getElem j1] at e1
          rw [List.getElem?_eq_getElem j2] at e2
          cases e1; cases e2
          simpa using z
        rw [show ((List.range us.toArray.size).all fun _ => true) = true from List.all_eq_true.mpr fun _ _ => rfl] at q
        exact q
theorem SamE.up : ∀ {n : Nat} {v : EV}, SamE n v → SamE (n + 1) v
  | 0, v, h => fun xs e => (e.elim (h.1 xs) (h.2 xs)).elim
  | n + 1, v, h => fun xs e x hx => SamE.up (h xs e x hx)
theorem SamE.le {n m : Nat} (l : n ≤ m) {v : EV} (h : SamE n v) : SamE m v := by
  induction l with
  | refl => exact h
  | step _ ih => exact ih.up
theorem sam_leaf {K : PySem.W.Frag} {m : Nat → Addr} {n : Nat} {H : Hp} {v : EV} {x y : V} (k : Nat) (ht : ∀ xs, v ≠ .tup xs) (hk : ∀ xs, v ≠ .ktup xs) (rx : aC K m n H v x) (ry : aC K m n H v y) : SamV K H k x y := by
  cases v with
  | tup xs => exact absurd rfl (ht xs)
  | ktup xs => exact absurd rfl (hk xs)
  | ref r => rw [aC] at rx ry; rw [rx.2, ry.2]; exact .ref
  | adr a => rw [aC] at rx ry; rw [rx, ry]; exact .ref
  | ty t => rw [aC] at rx ry; rw [rx, ry]; exact .ty
  | _ => rw [aC] at rx ry; rw [rx, ry]; exact .flat rfl
theorem SamE.sam {K : PySem.W.Frag} {m : Nat → Addr} {n : Nat} {H : Hp} : ∀ (k : Nat) (v : EV) {x y : V}, SamE k v → aC K m n H v x → aC K m n H v y → SamV K H k x y
  | 0, v, x, y, h, rx, ry => sam_leaf 0 h.1 h.2 rx ry
  | k + 1, v, x, y, h, rx, ry => by
    have its : ∀ {xs : List EV} {us ws : List V}, (∀ z ∈ xs, SamE k z) → aO K m n H xs us → aO K m n H xs ws → us.length = ws.length ∧ ∀ (i : Nat) (x y : V), us[i]? = some x → ws[i]? = some y → SamV K H k x y := by
      intro xs us ws hs r1 r2
      refine ⟨r1.length.symm.trans r2.length, fun i x y e1 e2 => ?_⟩
      have hi : i < xs.length := by rw [r1.length]; exact (List.getElem?_eq_some_iff.mp e1).1
      obtain ⟨x', ex, q1⟩ := r1.at (List.getElem?_eq_getElem hi)
      obtain ⟨y', ey, q2⟩ := r2.at (List.getElem?_eq_getElem hi)
      rw [e1] at ex; rw [e2] at ey
      cases ex; cases ey
      exact SamE.sam k _ (hs _ (List.getElem_mem hi)) q1 q2
    by_cases ht : ∃ xs, v = .tup xs
    · obtain ⟨xs, rfl⟩ := ht
      rw [aC] at rx ry
      obtain ⟨a, us, rfl, ha, r1⟩ := rx
      obtain ⟨b, ws, rfl, hb, r2⟩ := ry
      obtain ⟨l, q⟩ := its (h xs (.inl rfl)) r1 r2
      exact .tup (SqT.of ha) (SqT.of hb) l q
    · by_cases hk : ∃ xs, v = .ktup xs
      · obtain ⟨xs, rfl⟩ := hk
        rw [aC] at rx ry
        obtain ⟨a, us, rfl, ha, r1⟩ := rx
        obtain ⟨b, ws, rfl, hb, r2⟩ := ry
        obtain ⟨l, q⟩ := its (h xs (.inr rfl)) r1 r2
        exact .tup ha hb l q
      · exact sam_leaf _ (fun xs e => ht ⟨xs, e⟩) (fun xs e => hk ⟨xs, e⟩) rx ry
def AlkE (h : EH) : Nat → EV → EV → Prop
  | 0, v, w => v = w ∧ SamE 0 v
  | n + 1, v, w => (v = w ∧ SamE (n + 1) v) ∨ (∃ xs ys, v = .tup xs ∧ w = .tup ys ∧ Paired (AlkE h n) xs ys) ∨ ∃ r q xs ys, v = .ref r ∧ w = .ref q ∧ h[r]? = some (.lst xs) ∧ h[q]? = some (.lst ys) ∧ Paired (AlkE h n) xs ys
theorem prd_at {α β : Type} {R : α → β → Prop} : ∀ {xs : List α} {ys : List β}, Paired R xs ys → xs.length = ys.length ∧ ∀ (i : Nat) (x : α) (y : β), xs[i]? = some x → ys[i]? = some y → R x y
  | _, _, .nil => ⟨rfl, fun i x y e => by simp at e⟩
  | _, _, .cons a b => ⟨by simp [(prd_at b).1], fun i x y e1 e2 => by
    cases i with
    | zero => simp at e1 e2; subst e1; subst e2; exact a
    | succ i => simp at e1 e2; exact (prd_at b).2 i x y e1 e2⟩
theorem AlkE.sam {K : PySem.W.Frag} {m : Nat → Addr} {h : EH} {H : Hp} (R : cC K m h H) : ∀ (k : Nat) (v w : EV) {x y : V}, AlkE h k v w → aC K m h.length H v x → aC K m h.length H w y → SamV K H k x y
  | 0, v, w, x, y, e, rx, ry => by obtain ⟨rfl, e⟩ := e; exact e.sam 0 v rx ry
  | k + 1, v, w, x, y, e, rx, ry => by
    have its : ∀ {xs ys : List EV} {us ws : List V}, Paired (AlkE h k) xs ys → aO K m h.length H xs us → aO K m h.length H ys ws → us.length = ws.length ∧ ∀ (i : Nat) (x y : V), us[i]? = some x → ws[i]? = some y → SamV K H k x y := by
      intro xs ys us ws p r1 r2
      obtain ⟨pl, pa⟩ := prd_at p
      refine ⟨by rw [← r1.length, ← r2.length, pl], fun i x y e1 e2 => ?_⟩
      have hi : i < xs.length := by rw [r1.length]; exact (List.getElem?_eq_some_iff.mp e1).1
      have hj : i < ys.length := by omega
      obtain ⟨x', ex, q1⟩ := r1.at (List.getElem?_eq_getElem hi)
      obtain ⟨y', ey, q2⟩ := r2.at (List.getElem?_eq_getElem hj)
      rw [e1] at ex; rw [e2] at ey
      cases ex; cases ey
      exact AlkE.sam R k _ _ (pa i _ _ (List.getElem?_eq_getElem hi) (List.getElem?_eq_getElem hj)) q1 q2
    rcases e with ⟨rfl, e⟩ | ⟨xs, ys, rfl, rfl, p⟩ | ⟨r, q, xs, ys, rfl, rfl, e1, e2, p⟩
    · exact e.sam (k + 1) v rx ry
    · rw [aC] at rx ry
      obtain ⟨a, us, rfl, ha, r1⟩ := rx
      obtain ⟨b, ws, rfl, hb, r2⟩ := ry
      obtain ⟨l, z⟩ := its p r1 r2
      exact .tup (SqT.of ha) (SqT.of hb) l z
    · rw [aC] at rx ry
      obtain ⟨_, rfl⟩ := rx
      obtain ⟨_, rfl⟩ := ry
      obtain ⟨vs, hv, t1⟩ := R.obj _ _ e1
      obtain ⟨us, hu, t2⟩ := R.obj _ _ e2
      obtain ⟨l, z⟩ := its p t1 t2
      exact .lst (SqL.of hv) (SqL.of hu) l z
def TopS (v w : EV) (h : EH) : Prop := (∃ xs ys, v = .tup xs ∧ w = .tup ys ∧ Paired (AlkE h 39) xs ys) ∨ (∃ r q xs ys, v = .ref r ∧ w = .ref q ∧ h[r]? = some (.lst xs) ∧ h[q]? = some (.lst ys) ∧ Paired (AlkE h 39) xs ys) ∨ ∃ r kvs, v = .ref r ∧ w = .ref r ∧ h[r]? = some (.dic kvs)
def eqI : LO := fun v w h P => (TopS v w h ∧ P (.bl true) h) ∨ eqX false v w h P
def rEqI (K : PySem.W.Frag) : R2 := fun x y H Q => ((∃ a b xs ys, x = .ref a ∧ y = .ref b ∧ SqT K H a xs ∧ SqT K H b ys ∧ xs.length = ys.length ∧ ∀ (i : Nat) (x y : V), xs[i]? = some x → ys[i]? = some y → SamV K H 39 x y) ∨
  (∃ a b xs ys, x = .ref a ∧ y = .ref b ∧ SqL K H a xs ∧ SqL K H b ys ∧ xs.length = ys.length ∧ ∀ (i : Nat) (x y : V), xs[i]? = some x → ys[i]? = some y → SamV K H 39 x y) ∨ ∃ a l, x = .ref a ∧ y = .ref a ∧ H a = some (.dK l)) ∧ Q (.bl true) H
theorem self_hits {A : Around} {s : Shared} (va : List (L2.Key × Value)) (nd : (va.map (·.1)).Nodup) : ∀ l, (∀ p ∈ l, p ∈ va) → PySem.W.KeqHits A s va l true
  | [], _ => .nil
  | (k, v) :: r, hp => by
    have e : valueAt va k = some v := by
      have hm := hp _ (List.mem_cons_self ..)
      unfold valueAt
      clear hp
      induction va with
      | nil => cases hm
      | cons q t ih =>
        rw [List.map_cons, List.nodup_cons] at nd
        rw [List.find?_cons]
        by_cases z : q.1 = k
        · rw [decide_eq_true z]
          rcases List.mem_cons.mp hm with rfl | hm
          · rfl
          · exact absurd (List.mem_map.mpr ⟨_, hm, z.symm⟩) nd.1
        · rw [decide_eq_false z]
          rcases List.mem_cons.mp hm with rfl | hm
          · exact absurd rfl z
          · exact ih nd.2 hm
    have q := PySem.W.KeqHits.hit (A := A) (s := s) (r := r) (e := true) (b := true) e (PySem.SeqAt.EqAt.same v) (self_hits va nd r fun p h => hp p (List.mem_cons_of_mem _ h))
    exact q
section
variable {X : Cx}
theorem op_eqI (hu : X.A.units + 64 < cLine) : OpR X (compareOp .Eq) (rEqI X.K) := by
  intro pins s σ H x y v u Q I rx ry h
  obtain ⟨h, q⟩ := h
  have its : ∀ {xs ys : List V} {us ws : List Value}, (∀ (i : Nat) (x y : V), xs[i]? = some x → ys[i]? = some y → SamV X.K H 39 x y) → Vals xs us → Vals ys ws → ∀ j (h1 : j < us.toArray.size) (h2 : j < ws.toArray.size), PySem.SeqAt.EqAt X.A.in1 s us.toArray[j] ws.toArray[j] true := by
    intro xs ys us ws it r1 r2 j h1 h2
    have l1 := r1.length
    have l2 := r2.length
    have j1 : j < us.length := by simpa using h1
    have j2 : j < ws.length := by simpa using h2
    obtain ⟨w1, e1, q1⟩ := r1.get (List.getElem?_eq_getElem (show j < xs.length by omega))
    obtain ⟨w2, e2, q2⟩ := r2.get (List.getElem?_eq_getElem (show j < ys.length by omega))
    have z := SamV.eq I 39 (A := X.A.in1) (by show X.A.units + 1 + 39 < cLine; omega) (it j _ _ (List.getElem?_eq_getElem (by omega)) (List.getElem?_eq_getElem (by omega))) q1 q2
    rw [List.getElem?_eq_getElem j1] at e1
    rw [List.getElem?_eq_getElem j2] at e2
    cases e1; cases e2
    simpa using z
  rcases h with ⟨a, b, xs, ys, rfl, rfl, ha, hb, hl, it⟩ | ⟨a, b, xs, ys, rfl, rfl, ha, hb, hl, it⟩ | ⟨a, l, rfl, rfl, ha⟩
  · cases (show v = Value.ref a from rx)
    cases (show u = Value.ref b from ry)
    obtain ⟨us, r1, p1, _⟩ := I.tuple ha
    obtain ⟨ws, r2, p2, _⟩ := I.tuple hb
    have l1 := r1.length
    have l2 := r2.length
    refine PySem.SeqAt.eq_tupleAt (e := fun _ => true) p1 p2 (by omega) (its it r1 r2) ⟨.bl true, H, I, ?_, q⟩
    have e2 : ((List.range (min us.toArray.size ws.toArray.size)).all (fun _ => true) && us.toArray.size == ws.toArray.size) = true := by
      simp [← l1, ← l2, hl]
    rw [e2]
    rfl
  · cases (show v = Value.ref a from rx)
    cases (show u = Value.ref b from ry)
    obtain ⟨us, r1, p1, _⟩ := I.list ha
    obtain ⟨ws, r2, p2, _⟩ := I.list hb
    have l1 := r1.length
    have l2 := r2.length
    refine PySem.SeqAt.eq_listAt (e := fun _ => true) p1.isList p2.isList (by simp; omega) (by omega) (its it r1 r2) ⟨.bl true, H, I, ?_, q⟩
    rw [show ((List.range us.toArray.size).all fun _ => true) = true from List.all_eq_true.mpr fun _ _ => rfl]
    rfl
  · cases (show v = Value.ref a from rx)
    cases (show u = Value.ref a from ry)
    obtain ⟨_, y1, va, t1, o, es, ep, a1, a2, a3, a4, a5, nd⟩ := (show ObjOk X.prog X.w H s.heap a (.dK l) from I.hok a _ ha)
    refine PySem.W.keq_eq (knd := mixKind X.prog X.w) (ka := va) (kb := va) y1 y1 ⟨o, es, ep, a1, a2, a3, a4, a5, nd⟩ ⟨o, es, ep, a1, a2, a3, a4, a5, nd⟩ (by omega) (fun _ => self_hits va nd va fun _ h => h) ⟨.bl true, H, I, ?_, q⟩
    rw [beq_self_eq_true]; rfl
theorem lo_eqI (hu : X.A.units + 64 < cLine) : oA X (compareOp .Eq) eqI := by
  obtain ⟨r, h1, h2⟩ := lo_eqX (X := X) hu
  refine ⟨_, OpR.or (op_eqI hu) h1, ?_⟩
  intro m h H v w x y P Q R rx ry q k
  rcases q with ⟨t, p⟩ | q
  · refine .inl ⟨?_, k.same R p (by rw [aC])⟩
    have its : ∀ {xs ys : List EV} {us ws : List V}, Paired (AlkE h 39) xs ys → aO X.K m h.length H xs us → aO X.K m h.length H ys ws → us.length = ws.length ∧ ∀ (i : Nat) (x y : V), us[i]? = some x → ws[i]? = some y → SamV X.K H 39 x y := by
      intro xs ys us ws p r1 r2
      obtain ⟨pl, pa⟩ := prd_at p
      refine ⟨by rw [← r1.length, ← r2.length, pl], fun i x y e1 e2 => ?_⟩
      have hi : i < xs.length := by rw [r1.length]; exact (List.getElem?_eq_some_iff.mp e1).1
      have hj : i < ys.length := by omega
      obtain ⟨x', ex, q1⟩ := r1.at (List.getElem?_eq_getElem hi)
      obtain ⟨y', ey, q2⟩ := r2.at (List.getElem?_eq_getElem hj)
      rw [e1] at ex; rw [e2] at ey
      cases ex; cases ey
      exact AlkE.sam R 39 _ _ (pa i _ _ (List.getElem?_eq_getElem hi) (List.getElem?_eq_getElem hj)) q1 q2
    rcases t with ⟨xs, ys, rfl, rfl, p2⟩ | ⟨r, q, xs, ys, rfl, rfl, e, e', p2⟩ | ⟨r, kvs, rfl, rfl, e⟩
    · rw [aC] at rx ry
      obtain ⟨a, us, rfl, ha, r1⟩ := rx
      obtain ⟨b, ws, rfl, hb, r2⟩ := ry
      exact .inl ⟨a, b, us, ws, rfl, rfl, SqT.of ha, SqT.of hb, its p2 r1 r2⟩
    · rw [aC] at rx ry
      obtain ⟨_, rfl⟩ := rx
      obtain ⟨_, rfl⟩ := ry
      obtain ⟨vs, hv, t1⟩ := R.obj _ _ e
      obtain ⟨us, hu2, t2⟩ := R.obj _ _ e'
      exact .inr (.inl ⟨_, _, vs, us, rfl, rfl, SqL.of hv, SqL.of hu2, its p2 t1 t2⟩)
    · rw [aC] at rx ry
      obtain ⟨_, rfl⟩ := rx
      obtain ⟨_, rfl⟩ := ry
      obtain ⟨l, hv, _⟩ := R.obj _ _ e
      exact .inr (.inr ⟨_, l, rfl, rfl, hv⟩)
  · exact .inr (h2 m h H v w x y P Q R rx ry q k)
end
theorem bootX_ValueError : bootBuiltins "ValueError" = some (.type "ValueError") := by decide +kernel
structure RoomN (k : Nat) (A : Around) : Prop where
  dp : A.depth + 3 * k + 5 < recursionLimit
  un : A.units + 16 * k + 200 < cLine
theorem RoomN.units {k : Nat} {A : Around} (r : RoomN k A) : A.units + 64 < cLine := by have := r.un; omega
theorem RoomN.deeper {k : Nat} {A : Around} (r : RoomN (k + 1) A) (env : Env) : RoomN k (A.deeper env) :=
  ⟨by have := r.dp; show A.depth + 1 + 3 * k + 5 < _; omega, by have := r.un; show A.units + 3 + 16 * k + 200 < _; omega⟩
theorem roomS {j k : Nat} {A : Around} (r : Room j A) (h : k ≤ j) {v : Option Value} : RoomN k (A.mark v) := ⟨by have := r.dp; show A.depth + _ + _ < _; omega, by have := r.un; show A.units + _ + _ < _; omega⟩
structure FnN (P : Program) (w : World) (K : PySem.W.Frag) (mg : Str → Option Value) (base : Heap) (k : Nat) (f : Addr) (fd : FuncData) (ps : List Str) (sp : LSp) : Prop where
  len : ∀ evs h Q, sp evs h Q → evs.length = ps.length
  run : ∀ (A : Around) (outer : List Env) (s : Shared) (H : Hp) (args : Args) (us : List Value) (vs : List V) (Q : VK), RoomN k A → A.guards = some [] → Env0 P w K mg base A outer s H →
    BindsTo s fd args (ps.zip us) → Vals vs us → upSp K sp vs H Q → codeAny (model P w) A (.call (.ref f) args) (CR CX0 outer P w H s Q E0) s
theorem FnN.g {P : Program} {w : World} {K : PySem.W.Frag} {mg : Str → Option Value} {base : Heap} {k : Nat} {f : Addr} {fd : FuncData} {ps : List Str} {sp : LSp} (F : FnN P w K mg base k f fd ps sp) : FnG P w K mg base k f fd ps sp :=
  ⟨F.len, fun A outer s H args us vs Q hr => F.run A outer s H args us vs Q ⟨hr.dp, hr.un⟩⟩
section
variable {X : Cx} {k : Nat} {f : Addr} {fd : FuncData} {ps : List Str} {sp : LSp} {x : Str} {p pos : Pos} {e : Expr} {es : List Expr} {t : LA}
theorem runN {pins : List (Addr × Obj)} {σ : L2.St} {H : Hp} {s : Shared} {Q : VK} {us : List Value} {vs : List V} (F : FnN X.prog X.w X.K X.mg X.base k f fd ps sp) (hr : RoomN k X.A) (hG : X.A.guards = some [])
    (hb : Binds X.K fd ps []) (I : Inv X pins σ H s) (r : Vals vs us) (q : upSp X.K sp vs H Q) : wpAny (model X.prog X.w) X.A (call (.ref f) us) (EP X pins σ Q) X.xe s := by
  have hl : us.length = ps.length := r.length.symm.trans (upSp.len F.len q)
  have b := hb s us I.kIn (by simpa using hl)
  rw [List.append_nil] at b
  refine wpAny_call (codeAny_mono (F.run X.A X.stack s H _ us vs Q hr hG I.env0 b r q) fun o s' ho => ?_)
  match o, ho with
  | .error _, ho => exact ho.elim
  | .ok (.ret u), ho => exact I.after ho
  | .ok .next, ho => exact ho.elim
  | .ok .brk, ho => exact ho.elim
  | .ok .cont, ho => exact ho.elim
theorem le_callN (F : FnN X.prog X.w X.K X.mg X.base k f fd ps sp) (hr : RoomN k X.A) (hG : X.A.guards = some []) (hg : Gl X x) (hm : X.mg x = some (.ref f)) (hk : PySem.W.keepIn X.K (.ref f) = true) (hb : Binds X.K fd ps [])
    (ha : LAs X (e :: es) t) (hdb : (x == ("__debug__" : Str)) = false := by decide) (he : starEach (e :: es) X.env = (false, eval e X.env) :: starEach es X.env := by rfl) (hpl : (backTo pos (starEach es X.env)).any (·.1) = false := by rfl) :
    LE X (.Call (.Name x p) (e :: es) [] pos) (aA sp t) :=
  ⟨⟨fun pins s σ H Q I q => wpAny_Call_Name_kw (ld_glob I hg hm (PySem.W.callWith_K (h₀ := X.base) I.ok.mod.kin hk (thn (ha.pa.run pos pins s σ H _ I (up_call σ H Q q)) fun us s1 ⟨vs, H1, I1, r, q1⟩ =>
    ⟨I1.kIn, runN F hr hG hb I1 r q1⟩) he hpl) hdb)⟩⟩
end
def cxN (P : Program) (w : World) (K : PySem.W.Frag) (mg : Str → Option Value) (base : Heap) (N : List Str) (qual : Str) (scope : Scope) (f : Addr) (cd : Value) (A : Around) (outer : List Env) (s : Shared) (H : Hp) : Cx :=
  { cxOf CX0 P w K mg base N qual scope f cd A outer s H E0 with calm := false }
theorem inv_startN {P : Program} {w : World} {K : PySem.W.Frag} {mg : Str → Option Value} {base : Heap} {N ps : List Str} {qual : Str} {scope : Scope} {f : Addr} {cd : Value} {A : Around} {outer : List Env} {s s1 : Shared} {H : Hp} {us : List Value} {vs : List V}
    (S : FnScope N ps scope) (e0 : Env0 P w K mg base A outer s H) (hl : vs.length = ps.length) (r : Vals vs us)
    (x : InCallC s s.heap.objs.size (bindL (envOfC qual scope s.heap.objs.size f cd).kindOf (ps.zip us) fun _ => none) (cellsFrom (s.heap.objs.size + 1) scope.names []) (bindC (envOfC qual scope s.heap.objs.size f cd).kindOf (ps.zip us) fun _ => none) s1) :
    Inv (cxN P w K mg base N qual scope f cd A outer s H) [] (start N vs) H s1 := by
  have e1 : Env0 P w K mg base { A with handled := none } outer s H := ⟨e0.frames, e0.mod, e0.bs, e0.bsz, e0.funs, e0.frf, e0.hok, e0.bare⟩
  have I := inv_start (CX := CX0) (A := { A with handled := none }) (cd := cd) (E := E0) S rfl e1 hl r x
  exact ⟨⟨I.ok.mod, I.ok.kind, I.ok.glob, I.ok.blt, I.ok.above, I.ok.inj, I.ok.has, I.ok.cab, fun z => Bool.noConfusion (show false = true from z), Around.frames_deeper e0.frames, I.ok.stk, I.ok.exf, I.ok.bs, I.ok.bsz, I.ok.noex, I.ok.exfs, I.ok.funs, I.ok.frf⟩,
    I.os, I.bare, I.base, I.loc, I.cell, I.free, I.freeC, I.pin, I.hok, I.len⟩
theorem fnN_of {P : Program} {w : World} {K : PySem.W.Frag} {mg : Str → Option Value} {base : Heap} {k : Nat} {f : Addr} {fd : FuncData} {name qual : Str} {params : Arguments} {body : List Stmt} {scope : Scope} {N ps : List Str} {sp : LSp}
    (F : FunD K name qual params body scope [] [] f fd) (Sc : FnScope N ps scope) (len : ∀ evs h Q, sp evs h Q → evs.length = ps.length)
    (hbody : ∀ (cdv : Value) (A : Around) (outer : List Env) (s : Shared) (H : Hp), RoomN k (A.deeper (envOfC qual scope s.heap.objs.size f cdv)) → (A.deeper (envOfC qual scope s.heap.objs.size f cdv)).guards = some [] →
      ∃ t, LSs (cxN P w K mg base N qual scope f cdv A outer s H).nox body t ∧ ∀ evs h Q, sp evs h Q → t (aN Q) (bJ N evs) h) :
    FnN P w K mg base (k + 1) f fd ps sp := by
  obtain ⟨oc, od, dV, kV, doc, pm, an, cdv, ct, osl, rfl, lk, hcd, _, _⟩ := F.ex
  refine ⟨len, fun A outer s H args us vs Q hr hG e0 hb r q => ?_⟩
  have hl : vs.length = ps.length := upSp.len len q
  have keepB : ∀ b o, base.get? b = some o → s.heap.get? b = some o := fun b o e => (e0.bs b o e).1
  have inK := e0.mod.kin.keeps keepB
  obtain ⟨t, ht, hq⟩ := hbody cdv A outer s H (hr.deeper _) hG
  refine codeAny_call_function (by have := hr.dp; omega) (inK _ _ lk) rfl Sc.co Sc.gen rfl (PySem.W.codeRec_of inK hcd) (hb _ _ _ _ ?_)
  refine wpAny_newFunctionEnv_cells Sc.kind (fun y hy => ?_) fun env he s1 x => ?_
  · rcases Sc.par y.1 (List.of_mem_zip hy).1 with z | z
    · exact .inl z
    · exact .inr ⟨z, PySem.W.cellsFrom_some _ _ _ (.inl z)⟩
  · subst he
    refine ⟨(e0.mod.nolimit.keeps keepB).keeps x.toInCall.keep, codeAny_func ?_⟩
    obtain ⟨m, h, evs, Pk, R, re, sq, kq⟩ := q
    have I := inv_startN (A := A) (cd := cdv) Sc e0 hl r x
    have run := ht.pss.nox.run [] s1 (start N vs) H { nx := fun _ H' => Q .non H', rt := Q } I ⟨m, bJ N evs, h, aN Pk, ⟨R, start_rel N re⟩, hq evs h Pk sq, ⟨fun env' h' p m' H' σ' E' a' => kq _ _ p m' H' _ E' a'.hp (by rw [aC]), kq, fun _ _ z => z.elim, fun _ _ z => z.elim⟩⟩
    refine wpAny_mono run (fun fl s' hs => ?_) fun e s' hs => hs
    match fl, hs with
    | .ret u, ⟨v, σ', H', J, rv, z⟩ => exact ⟨v, H', J.os, J.bare, J.base, J.hok, rv, z⟩
    | .next, ⟨σ', H', J, z⟩ => exact ⟨.non, H', J.os, J.bare, J.base, J.hok, rfl, z⟩
    | .brk, ⟨_, _, _, z⟩ => exact z.elim
    | .cont, ⟨_, _, _, z⟩ => exact z.elim
end Y
namespace Y
open PySem PySem.Spec PyProof.Rows L2
def top (i : Nat) : Stmt := PySem.Challenge.pw_saidearly_k39_sayings_told_apart.main.body.getD i (.Pass ⟨0, 0, 0, 0⟩)
abbrev iT : Stmt := top 10
abbrev iH : Stmt := top 11
abbrev jt : Stmt := top 12
abbrev nR : Stmt := top 13
abbrev iy : Stmt := top 14
abbrev ir : Stmt := top 18
abbrev cZ : Stmt := top 19
abbrev cR : Stmt := inClass (top 20) 1
abbrev jw : Stmt := top 29
abbrev lH : Stmt := top 30
abbrev nM : Stmt := top 31
abbrev jr : Stmt := top 32
abbrev jC : Stmt := top 33
abbrev ju : Stmt := top 34
abbrev il : Stmt := top 35
abbrev iU : Stmt := top 36
abbrev jK : Stmt := top 38
abbrev jn : Stmt := top 39
abbrev lA : Stmt := top 40
abbrev gY : Stmt := top 41
abbrev eX : Stmt := top 42
abbrev ig : Stmt := top 43
abbrev ie : Stmt := top 44
abbrev fY : Stmt := top 45
abbrev iJ : Stmt := top 46
abbrev iG : Stmt := top 47
abbrev jo : Stmt := top 48
abbrev gW : Stmt := top 49
abbrev cU : Stmt := top 50
abbrev iz : Stmt := top 52
abbrev gj : Stmt := top 51
abbrev fX : Stmt := top 53
abbrev eV : Stmt := top 54
abbrev fW : Stmt := top 55
abbrev dG : Stmt := top 56
abbrev cJ : Stmt := top 57
abbrev fZ : Stmt := top 58
abbrev dU : Stmt := top 59
abbrev g8 : Stmt := top 60
abbrev dD : Stmt := top 61
abbrev fO : Stmt := top 62
abbrev s_law : Stmt := top 63
abbrev M_is_integer : List Str := ["thing"]
abbrev M_is_between : List Str := ["thing", "low", "high"]
abbrev M_is_letter : List Str := ["thing"]
abbrev M_is_side : List Str := ["thing"]
abbrev M_is_script : List Str := ["thing", "sign"]
abbrev M_are_costs : List Str := ["thing", "one"]
abbrev pC : List Str := ["thing", "letter", "costs"]
abbrev oZ : List Str := ["self", "table", "letter"]
abbrev M_is_number : List Str := ["thing"]
abbrev M_has_word : List Str := ["thing"]
abbrev M_is_atom : List Str := ["thing"]
abbrev M_is_joined : List Str := ["thing"]
abbrev M_atoms_of : List Str := ["thing", "waiting", "found", "words", "one", "is_denied", "part"]
abbrev M_is_saying : List Str := ["thing"]
abbrev M_different : List Str := ["some", "at", "one"]
abbrev M_atoms__X : List Str := ["saying", "found"]
abbrev M__law_bag : List Str := ["_law_script", "_law_cell"]
abbrev M__law_take : List Str := ["_law_bag_here", "_law_many", "_law_cell", "_law_mixed_here", "_law_drawn", "_law_early", "_law_second"]
abbrev M__law_one : List Str := ["_law_bag_here", "_law_some"]
abbrev M__law_mixed : List Str := ["_law_bag_here", "_law_things", "_law_found", "_law_thing_here"]
abbrev M__law_alphabet : List Str := ["_law_bag_here"]
abbrev M__law_text : List Str := ["_law_bag_here", "_law_letters", "_law_most", "_law_k"]
abbrev M__law_full : List Str := ["_law_bag_here", "_law_letters", "_law_size", "_law_k"]
abbrev M__law_edited : List Str := ["_law_bag_here", "_law_text_here", "_law_letters", "_law_most", "_law_found", "_law_letter", "_law_way"]
abbrev M__law_texts : List Str := ["_law_bag_here", "_law_letters", "_law_most", "_law_way", "_law_ring", "_law_base"]
abbrev M__law_steps : List Str := ["_law_left", "_law_right", "_law_i", "_law_j", "_law_found"]
abbrev M__law_walk : List Str := ["_law_bag_here", "_law_left", "_law_right", "_law_most", "_law_i", "_law_j", "_law_found", "_law_turn", "_law_some", "_law_step"]
abbrev M__law_atom : List Str := ["_law_bag_here", "_law_left", "_law_right", "_law_way", "_law_i", "_law_some", "_law_j"]
abbrev oE : List Str := ["_law_saying_here", "_law_part"]
abbrev M__law_parts : List Str := ["_law_bag_here", "_law_left", "_law_right", "_law_size", "_law_atom_here", "_law_word", "_law_first", "_law_one_here"]
abbrev M__law_saying : List Str := ["_law_bag_here", "_law_left", "_law_right", "_law_size", "_law_found"]
abbrev M__law_alike : List Str := ["_law_found", "_law_due"]
abbrev M__law_is_whole : List Str := ["_law_thing_here", "_law_low", "_law_top"]
abbrev M__law_atoms : List Str := ["_law_saying_here", "_law_found", "_law_part", "_law_more", "_law_atom_here"]
abbrev M__law_odd_values : List Str := ["_law_plain"]
abbrev nJ : List Str := ["_law_bag_here", "_law_saying_here", "_law_places", "_law_at", "_law_way", "_law_odd", "_law_k"]
abbrev M__law_counts : List Str := ["_law_thing_here", "_law_inside", "_law_word", "_law_size", "_law_good", "_law_found", "_law_one_here", "_law_other"]
abbrev M__law_is_saying : List Str := ["_law_thing_here", "_law_found"]
abbrev M__law_thing : List Str := ["_law_bag_here", "_law_left", "_law_right", "_law_way", "_law_saying_here", "_law_k"]
abbrev M__law_told_atoms : List Str := ["_law_thing_here", "_law_found", "e", "_law_plain"]
abbrev M__law_is_read : List Str := ["_law_thing_here", "_law_good", "_law_text_here", "_law_again", "_law_found", "_law_due"]
abbrev M_law : List Str := ["_law_script", "_law_bag_here", "_law_turn", "_law_letters", "_law_left", "_law_right", "_law_own", "_law_thing_here"]
def dD_is_integer : He.DefD := ⟨("is_integer", none), "is_integer", "is_integer", defArgs iT, defBody iT, defScope iT, [], []⟩
def dD_is_between : He.DefD := ⟨("is_between", none), "is_between", "is_between", defArgs iH, defBody iH, defScope iH, [], []⟩
def dD_is_letter : He.DefD := ⟨("is_letter", none), "is_letter", "is_letter", defArgs jt, defBody jt, defScope jt, [], []⟩
def dD_is_side : He.DefD := ⟨("is_side", none), "is_side", "is_side", defArgs nR, defBody nR, defScope nR, [], []⟩
def dD_is_script : He.DefD := ⟨("is_script", none), "is_script", "is_script", defArgs iy, defBody iy, defScope iy, [], []⟩
def dD_are_costs : He.DefD := ⟨("are_costs", none), "are_costs", "are_costs", defArgs ir, defBody ir, defScope ir, [], []⟩
def dD_is_price_table : He.DefD := ⟨("is_price_table", none), "is_price_table", "is_price_table", defArgs cZ, defBody cZ, defScope cZ, [], []⟩
def tV : He.DefD := ⟨("Prices", some "__init__"), "__init__", "Prices.__init__", defArgs cR, defBody cR, defScope cR, [], []⟩
def dD_is_number : He.DefD := ⟨("is_number", none), "is_number", "is_number", defArgs jw, defBody jw, defScope jw, [], []⟩
def dD_has_word : He.DefD := ⟨("has_word", none), "has_word", "has_word", defArgs lH, defBody lH, defScope lH, [], []⟩
def dD_is_atom : He.DefD := ⟨("is_atom", none), "is_atom", "is_atom", defArgs nM, defBody nM, defScope nM, [], []⟩
def dD_is_joined : He.DefD := ⟨("is_joined", none), "is_joined", "is_joined", defArgs jr, defBody jr, defScope jr, [], []⟩
def dD_atoms_of : He.DefD := ⟨("atoms_of", none), "atoms_of", "atoms_of", defArgs jC, defBody jC, defScope jC, [], []⟩
def dD_is_saying : He.DefD := ⟨("is_saying", none), "is_saying", "is_saying", defArgs ju, defBody ju, defScope ju, [], []⟩
def dD_different : He.DefD := ⟨("different", none), "different", "different", defArgs il, defBody il, defScope il, [], []⟩
def dD_atoms__X : He.DefD := ⟨("atoms", none), "atoms", "atoms", defArgs iU, defBody iU, defScope iU, [], []⟩
def dD__law_bag : He.DefD := ⟨("_law_bag", none), "_law_bag", "_law_bag", defArgs jK, defBody jK, defScope jK, [], []⟩
def dD__law_take : He.DefD := ⟨("_law_take", none), "_law_take", "_law_take", defArgs jn, defBody jn, defScope jn, [], []⟩
def dD__law_one : He.DefD := ⟨("_law_one", none), "_law_one", "_law_one", defArgs lA, defBody lA, defScope lA, [], []⟩
def dD__law_mixed : He.DefD := ⟨("_law_mixed", none), "_law_mixed", "_law_mixed", defArgs gY, defBody gY, defScope gY, [], []⟩
def dD__law_alphabet : He.DefD := ⟨("_law_alphabet", none), "_law_alphabet", "_law_alphabet", defArgs eX, defBody eX, defScope eX, [], []⟩
def dD__law_text : He.DefD := ⟨("_law_text", none), "_law_text", "_law_text", defArgs ig, defBody ig, defScope ig, [], []⟩
def dD__law_full : He.DefD := ⟨("_law_full", none), "_law_full", "_law_full", defArgs ie, defBody ie, defScope ie, [], []⟩
def dD__law_edited : He.DefD := ⟨("_law_edited", none), "_law_edited", "_law_edited", defArgs fY, defBody fY, defScope fY, [], []⟩
def dD__law_texts : He.DefD := ⟨("_law_texts", none), "_law_texts", "_law_texts", defArgs iJ, defBody iJ, defScope iJ, [], []⟩
def dD__law_steps : He.DefD := ⟨("_law_steps", none), "_law_steps", "_law_steps", defArgs iG, defBody iG, defScope iG, [], []⟩
def dD__law_walk : He.DefD := ⟨("_law_walk", none), "_law_walk", "_law_walk", defArgs jo, defBody jo, defScope jo, [], []⟩
def dD__law_atom : He.DefD := ⟨("_law_atom", none), "_law_atom", "_law_atom", defArgs gW, defBody gW, defScope gW, [], []⟩
def tY : He.DefD := ⟨("_law_has_begins", none), "_law_has_begins", "_law_has_begins", defArgs cU, defBody cU, defScope cU, [], []⟩
def dD__law_parts : He.DefD := ⟨("_law_parts", none), "_law_parts", "_law_parts", defArgs iz, defBody iz, defScope iz, [], []⟩
def dD__law_saying : He.DefD := ⟨("_law_saying", none), "_law_saying", "_law_saying", defArgs gj, defBody gj, defScope gj, [], []⟩
def dD__law_alike : He.DefD := ⟨("_law_alike", none), "_law_alike", "_law_alike", defArgs fX, defBody fX, defScope fX, [], []⟩
def dD__law_is_whole : He.DefD := ⟨("_law_is_whole", none), "_law_is_whole", "_law_is_whole", defArgs eV, defBody eV, defScope eV, [], []⟩
def dD__law_atoms : He.DefD := ⟨("_law_atoms", none), "_law_atoms", "_law_atoms", defArgs fW, defBody fW, defScope fW, [], []⟩
def tD : He.DefD := ⟨("_law_odd_values", none), "_law_odd_values", "_law_odd_values", defArgs dG, defBody dG, defScope dG, [], []⟩
def qX : He.DefD := ⟨("_law_bent_saying", none), "_law_bent_saying", "_law_bent_saying", defArgs cJ, defBody cJ, defScope cJ, [], []⟩
def dD__law_counts : He.DefD := ⟨("_law_counts", none), "_law_counts", "_law_counts", defArgs fZ, defBody fZ, defScope fZ, [], []⟩
def dD__law_is_saying : He.DefD := ⟨("_law_is_saying", none), "_law_is_saying", "_law_is_saying", defArgs dU, defBody dU, defScope dU, [], []⟩
def dD__law_thing : He.DefD := ⟨("_law_thing", none), "_law_thing", "_law_thing", defArgs g8, defBody g8, defScope g8, [], []⟩
def tR : He.DefD := ⟨("_law_told_atoms", none), "_law_told_atoms", "_law_told_atoms", defArgs dD, defBody dD, defScope dD, [], []⟩
def dD__law_is_read : He.DefD := ⟨("_law_is_read", none), "_law_is_read", "_law_is_read", defArgs fO, defBody fO, defScope fO, [], []⟩
def dD_law : He.DefD := ⟨("law", none), "law", "law", defArgs s_law, defBody s_law, defScope s_law, [], []⟩
def fn : List He.DefD := [dD_is_integer, dD_is_between, dD_is_letter, dD_is_side, dD_is_script, dD_are_costs, dD_is_price_table, tV, dD_is_number, dD_has_word, dD_is_atom, dD_is_joined, dD_atoms_of, dD_is_saying, dD_different, dD_atoms__X, dD__law_bag, dD__law_take, dD__law_one, dD__law_mixed, dD__law_alphabet, dD__law_text, dD__law_full, dD__law_edited, dD__law_texts, dD__law_steps, dD__law_walk, dD__law_atom, tY, dD__law_parts, dD__law_saying, dD__law_alike, dD__law_is_whole, dD__law_atoms, tD, qX, dD__law_counts, dD__law_is_saying, dD__law_thing, tR, dD__law_is_read, dD_law]
def fa : List He.Fa := [.glo "is_integer", .glo "is_between", .glo "is_letter", .glo "is_side", .glo "is_script", .glo "are_costs", .glo "is_price_table", .mkr "Prices", .glo "is_number", .glo "has_word", .glo "is_atom", .glo "is_joined", .glo "atoms_of", .glo "is_saying", .glo "different", .glo "atoms", .glo "_law_bag", .glo "_law_take", .glo "_law_one", .glo "_law_mixed", .glo "_law_alphabet", .glo "_law_text", .glo "_law_full", .glo "_law_edited", .glo "_law_texts", .glo "_law_steps", .glo "_law_walk", .glo "_law_atom", .glo "_law_has_begins", .glo "_law_parts", .glo "_law_saying", .glo "_law_alike", .glo "_law_is_whole", .glo "_law_atoms", .glo "_law_odd_values", .glo "_law_bent_saying", .glo "_law_counts", .glo "_law_is_saying", .glo "_law_thing", .glo "_law_told_atoms", .glo "_law_is_read", .glo "law", .glo "Prices", .glo "NoSaying", .glo "EarlyError", .glo "NoSuchLetter", .free "ValueError", .free "abs", .free "all", .free "bool", .free "dict", .free "enumerate", .free "int", .free "isinstance", .free "len", .free "list", .free "range", .free "repr", .free "sorted", .free "str", .free "tuple", .str "ALONE" "alone", .str "BEGINS" "begins", .int "GREATEST_LETTER" 1000000000, .int "GREATEST_PRICE" 9, .str "KEPT" "kept", .glo "LENGTHS", .int "MANY_ATOMS" 4, .int "MANY_WORDS" 8, .str "NOT" "not", .glo "PLAIN", .glo "SIDE_WORDS", .str "STEPS" "kdp"]
def ts : List He.Tab := []
def exB : PySem.W.Frag → Bool := fun K => sclsB K (He.ga K "Prices") && slotB K (He.ga K "Prices") "its_costs" 0 && isiOkB K (He.ga K "Prices") && excB PySem.Challenge.rw_saidearly_k39_sayings_told_apart.prog K (He.ga K "NoSaying") "thing" "thing" && isxB K (.ref (He.ga K "EarlyError")) [(He.ga K "NoSaying", true)] && isxB K (.ref (He.ga K "NoSuchLetter")) [(He.ga K "NoSaying", false)] && isxB K (.type "ValueError") [(He.ga K "NoSaying", true)] && xfAtB K [He.ga K "NoSaying"] "thing" && exclV K [(He.ga K "NoSaying", [He.ga K "NoSaying"])] && sysB K && tupNB K (He.ga K "LENGTHS") [.ktup [.str [110, 111, 116], .int 2], .ktup [.str [97, 110, 100], .int 3], .ktup [.str [111, 114], .int 3]] && tupB K (He.ga K "PLAIN") [.int 1, .int 1] && tupB K (He.ga K "SIDE_WORDS") [.str [108, 101, 102, 116], .str [114, 105, 103, 104, 116]]
abbrev hk : PySem.W.Hook := hookZ 2000 fa fn ts exB
abbrev R : PySem.W.OpenRow := PySem.W.OpenLaw.row PySem.Challenge.rw_saidearly_k39_sayings_told_apart
def ob (s : PySem.W.SharedT) : He.AlX := obsZ 2000 fa fn ts exB (HandSHeadRun.getT s)
theorem ob_eq (s : PySem.W.SharedT) : ob s = hk.obs s.abs := obsZ_eq (HandSHeadRun.getT_eq s)
def names : List PySem.Str := (["_wall", "EarlyError", "NoSaying", "NoSuchLetter", "Wrong", "GREATEST_LETTER", "SIDE_WORDS", "STEPS", "is_integer", "is_between"] : List PySem.Str) ++ (["is_letter", "is_side", "is_script", "PLAIN", "GREATEST_PRICE", "are_costs", "is_price_table", "Prices", "MANY_ATOMS", "MANY_WORDS"] : List PySem.Str) ++ (["KEPT", "ALONE", "BEGINS", "NOT", "LENGTHS", "is_number", "has_word", "is_atom", "is_joined", "atoms_of"] : List PySem.Str) ++ (["is_saying", "different", "atoms", "_law_bag", "_law_take", "_law_one", "_law_mixed", "_law_alphabet", "_law_text", "_law_full"] : List PySem.Str) ++ (["_law_edited", "_law_texts", "_law_steps", "_law_walk", "_law_atom", "_law_has_begins", "_law_saying", "_law_parts", "_law_alike", "_law_is_whole"] : List PySem.Str) ++ (["_law_atoms", "_law_odd_values", "_law_bent_saying", "_law_counts", "_law_is_saying", "_law_thing", "_law_told_atoms", "_law_is_read"] : List PySem.Str)
open PySem.W PySem.Calls
theorem split3 {α β γ δ : Type} {x : Option α} {f : α → β} {g : α → γ} {k : α → δ} {b : β} {c : γ} {d : δ} (h1 : x.map f = some b) (h2 : x.map g = some c) (h3 : x.map k = some d) : x.map (fun s => (f s, g s, k s)) = some (b, c, d) := by
  cases x with
  | none => cases h1
  | some s =>
    rw [Option.map_some] at h1 h2 h3 ⊢
    rw [Option.some.inj h1, Option.some.inj h2, Option.some.inj h3]
theorem splitOb {x : Option PySem.W.SharedT} {n : Nat} {fa : List He.Fa} {fn : List He.DefD} {ts : List He.Tab} {ex : PySem.W.Frag → Bool} {w : World}
    (ha : x.map (fun s => fa.all fun f => f.ok (He.frT (HandSHeadRun.getT s) (List.range n))) = some true)
    (hb1 : x.map (fun s => (fn.take 33).all fun d => d.ok (He.frT (HandSHeadRun.getT s) (List.range n))) = some true)
    (hb2 : x.map (fun s => ((fn.drop 33).take 33).all fun d => d.ok (He.frT (HandSHeadRun.getT s) (List.range n))) = some true)
    (hb3 : x.map (fun s => ((fn.drop 33).drop 33).all fun d => d.ok (He.frT (HandSHeadRun.getT s) (List.range n))) = some true)
    (hc : x.map (fun s => fn.map fun d => He.fnW (He.frT (HandSHeadRun.getT s) (List.range n)) d.at_) = some (fn.map He.DefD.val))
    (ht : x.map (fun s => (ts.map fun t => He.dicW (He.frT (HandSHeadRun.getT s) (List.range n)) (t.1 (He.frT (HandSHeadRun.getT s) (List.range n))), ex (He.frT (HandSHeadRun.getT s) (List.range n)))) = some ((He.valT fn ts w).2, true)) :
    x.map (fun s => obsZ n fa fn ts ex (HandSHeadRun.getT s)) = some (He.valX fn ts w) := by
  cases x with
  | none => cases ha
  | some s =>
    rw [Option.map_some] at ha hb1 hb2 hb3 hc ht ⊢
    have ha := Option.some.inj ha
    have hb : (fn.all fun d => d.ok (He.frT (HandSHeadRun.getT s) (List.range n))) = true := by
      rw [← List.take_append_drop 33 fn, List.all_append, Option.some.inj hb1, ← List.take_append_drop 33 (fn.drop 33), List.all_append, Option.some.inj hb2, Option.some.inj hb3]
      rfl
    have hc := Option.some.inj hc
    have ht := Option.some.inj ht
    have h1 := congrArg Prod.fst ht
    have h2 := congrArg Prod.snd ht
    simp only at h1 h2
    unfold obsZ He.obsT He.obsD He.valX He.valT He.valD
    rw [ha, hb, hc, h1, h2]
    rfl
theorem run1 (w : World) (os : OsState) : (HandSHeadRun.endF (HandSHeadRun.stepQ (HandSHeadRun.denQ HandSHeadRun.tabQ) R.prog w) 16000 R.prog w os).map (fun s => HandSHeadRun.looksF R.prog (boot_heap w.params) s.abs) = some true := by
  kernel_rfl
theorem run2 (w : World) (os : OsState) : (HandSHeadRun.endF (HandSHeadRun.stepQ (HandSHeadRun.denQ HandSHeadRun.tabQ) R.prog w) 16000 R.prog w os).map (fun s => HandSHeadRun.seenQ (PySem.W.view R.prog [63]) names (importedModules R.prog.main.body) (fun s => xlAt (PySem.W.view R.prog [63]) [] s && recOk R.toRowW.records s) s.abs) = some (openGood (PySem.W.view R.prog [63]) names) := by
  kernel_rfl
theorem run3a (w : World) (os : OsState) : (HandSHeadRun.endF (HandSHeadRun.stepQ (HandSHeadRun.denQ HandSHeadRun.tabQ) R.prog w) 16000 R.prog w os).map (fun s => fa.all fun f => f.ok (He.frT (HandSHeadRun.getT s) (List.range 2000))) = some true := by
  kernel_rfl
theorem run3b1 (w : World) (os : OsState) : (HandSHeadRun.endF (HandSHeadRun.stepQ (HandSHeadRun.denQ HandSHeadRun.tabQ) R.prog w) 16000 R.prog w os).map (fun s => (fn.take 33).all fun d => d.ok (He.frT (HandSHeadRun.getT s) (List.range 2000))) = some true := by
  kernel_rfl
theorem run3b2 (w : World) (os : OsState) : (HandSHeadRun.endF (HandSHeadRun.stepQ (HandSHeadRun.denQ HandSHeadRun.tabQ) R.prog w) 16000 R.prog w os).map (fun s => ((fn.drop 33).take 33).all fun d => d.ok (He.frT (HandSHeadRun.getT s) (List.range 2000))) = some true := by
  kernel_rfl
theorem run3b3 (w : World) (os : OsState) : (HandSHeadRun.endF (HandSHeadRun.stepQ (HandSHeadRun.denQ HandSHeadRun.tabQ) R.prog w) 16000 R.prog w os).map (fun s => ((fn.drop 33).drop 33).all fun d => d.ok (He.frT (HandSHeadRun.getT s) (List.range 2000))) = some true := by
  kernel_rfl
theorem run3c (w : World) (os : OsState) : (HandSHeadRun.endF (HandSHeadRun.stepQ (HandSHeadRun.denQ HandSHeadRun.tabQ) R.prog w) 16000 R.prog w os).map (fun s => fn.map fun d => He.fnW (He.frT (HandSHeadRun.getT s) (List.range 2000)) d.at_) = some (fn.map He.DefD.val) := by
  kernel_rfl
theorem run3d (w : World) (os : OsState) : (HandSHeadRun.endF (HandSHeadRun.stepQ (HandSHeadRun.denQ HandSHeadRun.tabQ) R.prog w) 16000 R.prog w os).map (fun s => (ts.map fun t => He.dicW (He.frT (HandSHeadRun.getT s) (List.range 2000)) (t.1 (He.frT (HandSHeadRun.getT s) (List.range 2000))), exB (He.frT (HandSHeadRun.getT s) (List.range 2000)))) = some ((He.valT fn ts w).2, true) := by
  kernel_rfl
theorem run3 (w : World) (os : OsState) : (HandSHeadRun.endF (HandSHeadRun.stepQ (HandSHeadRun.denQ HandSHeadRun.tabQ) R.prog w) 16000 R.prog w os).map (fun s => ob s) = some (hk.val w) := splitOb (run3a w os) (run3b1 w os) (run3b2 w os) (run3b3 w os) (run3c w os) (run3d w os)
theorem run (w : World) : HandSHeadRun.RunEq R (PySem.W.view R.prog [63]) hk ob 16000 names w := fun os => split3 (run1 w os) (run2 w os) (run3 w os)
end Y
section
open PySem PySem.W PySem.Calls PyProof.Rows
theorem Y.pre_saidearly_k39_sayings_told_apart (F : ∀ (w : World) (K : PySem.W.Frag) (mg : Str → Option Value) (f' : Addr) (h : Heap), K.In h → He.SaysX Y.fa Y.fn Y.ts [] Y.exB w h K → h.Ns mainGlobals mg → mg ("law" : PySem.Str) = some (.ref f') →
    ∃ fd : FuncData, (∀ (s : Shared) (u : Value), BindsTo s fd ⟨[u], []⟩ [("_law_script", u)]) ∧ ∀ base : Heap, K.In base → base.Ns mainGlobals mg → Y.FnG PySem.Challenge.rw_saidearly_k39_sayings_told_apart.prog w K mg base 44 f' fd ["_law_script"] (Y.spTop 63)) : PySem.Challenge.rw_saidearly_k39_sayings_told_apart.Holds := by
  w_on; o_law
  refine HandSHeadRun.head_any (r := OpenLaw.row PySem.Challenge.rw_saidearly_k39_sayings_told_apart) (q := view (OpenLaw.row PySem.Challenge.rw_saidearly_k39_sayings_told_apart).prog [63]) (H := Y.hk) (ob := Y.ob) (M := 16000) (loose := Y.names) (d := HandSHeadRun.topDef (OpenLaw.row PySem.Challenge.rw_saidearly_k39_sayings_told_apart).prog 63) (kwd := []) Y.ob_eq
    (by kernel_rfl) (fun s => by kernel_rfl) Y.run (by kernel_rfl) (by kernel_rfl) (by kernel_rfl) (by rfl) (by first | assumption | decide +kernel) (by decide +kernel) ⟨rfl, rfl, rfl, rfl, rfl, by decide +kernel⟩ ?hw ?hc
  case hw => w_witness2
  case hc =>
    refine Y.walkG (l := PySem.Challenge.rw_saidearly_k39_sayings_told_apart) (n := 63) (k := 44) (x := "_law_script") rfl (by decide) (by kernel_rfl) ⟨rfl, by decide, by decide⟩ ?F
    intro w mg fa h Y G hmg0
    obtain ⟨K, KX, c⟩ := Y
    have hmg : mg ("law" : PySem.Str) = some (.ref fa) := by
      have e : (HandSHeadRun.topDef (OpenLaw.row PySem.Challenge.rw_saidearly_k39_sayings_told_apart).prog 63).name = ("law" : PySem.Str) := by kernel_rfl
      rw [← e]
      exact hmg0
    obtain ⟨fd, hb, hF⟩ := F w K mg fa h KX c G hmg
    exact ⟨K, fd, KX, hb, hF⟩
end
namespace Y
open PySem PySem.Spec PyProof.Rows L2
def bQ (h : EH) (b : Nat) : Prop := ∃ (c : Nat) (x y z : Int) (ns : List Int), h[b]? = some (.lst [.int x, .int y, .int z, .ref c]) ∧ h[c]? = some (.lst (ns.map EV.int)) ∧ c < b ∧ 0 ≤ x ∧ 0 ≤ y ∧ 0 ≤ z ∧ ns.length ≤ 63 ∧ ∀ n ∈ ns, 0 ≤ n
def is1 (b : Nat) : Nat → Prop := fun r => r = b
def spBag : LSp := fun evs h Q => ∃ ns : List Int, evs = [.ref 0] ∧ h = [.frz (ns.map EV.int)] ∧ ns.length ≤ 63 ∧ ∀ b h', bQ h' b → Q (.ref b) h'
def spTake : LSp := fun evs h Q => ∃ (b : Nat) (many : Int), evs = [.ref b, .int many] ∧ 0 < many ∧ many < 2 ^ 60 ∧ bQ h b ∧ ∀ d h', 0 ≤ d → d < many → aP (is1 b) h h' → bQ h' b → Q (.int d) h'
def spOne : LSp := fun evs h Q => ∃ (b l : Nat) (xs : List EV), evs = [.ref b, .ref l] ∧ h[l]? = some (.lst xs) ∧ xs ≠ [] ∧ xs.length ≤ sizeLine ∧ l ≠ b ∧ bQ h b ∧ ∀ x h', x ∈ xs → aP (is1 b) h h' → bQ h' b → Q x h'
def spMixed : LSp := fun evs h Q => ∃ (b l : Nat) (xs : List EV), evs = [.ref b, .ref l] ∧ h[l]? = some (.lst xs) ∧ xs.length ≤ 1000000 ∧ l ≠ b ∧ bQ h b ∧ ∀ r ys h', ys.Perm xs → aP (is1 b) h h' → h.length ≤ r → h'[r]? = some (.lst ys) → bQ h' b → Q (.ref r) h'
def rdBag : LS :=
    aM (bM (aj (lC (.int 0)) (aj (lC (.int 1234567891)) (aj (lC (.int 0)) (aj (lLc (lIt (lSl (ao 0) (aV none) (aV (some (lC (.int 63)))))) (.nm 1) (rY) (lCB absE (aj (ao 1) (au))) [1]) (au))))))
def rdTake : LS :=
    aD (aR (lB (lOp (eqE false) (lOp ixA (ao 0) (lC (.int 0))) (lC (.int 0))))
      (aD (aY (lOp ixA (lOp bU (lSl (lOp ixA (ao 0) (lC (.int 3))) (aV (some (lOp ixA (ao 0) (lC (.int 2))))) (aV none)) (bM (aj (lC (.int 0)) (au)))) (lC (.int 0))) 2) <|
    aD (dB (fun i j => i + j) (ao 0) (lC (.int 2)) (lC (.int 1))) <|
    aD (cQ (ao 0) (lC (.int 0)) (lOp mulE (ao 2) (lCB intOf (aj (lOp geE (ao 2) (lOp powE (lC (.int 10)) (lC (.int 18)))) (au))))) <|
    aD (aY (lOp bU (lOp bU (lOp mulE (lOp ixA (ao 0) (lC (.int 1))) (lC (.int 48271))) (lOp modE (lCB intOf (aj (ao 2) (au))) (lC (.int 2147483647)))) (lOp mulE (lC (.int 7919)) (lOp ixA (ao 0) (lC (.int 2))))) 3) <|
    cQ (ao 0) (lC (.int 1)) (lOp modE (lCB intOf (aj (ao 3) (au))) (lC (.int 2147483647))))
      (aQ)) <|
    aD (aR (lB (lOp gtE (lOp ixA (ao 0) (lC (.int 0))) (lC (.int 0))))
      (aD (aY (lOp modE (lCB intOf (aj (lOp ixA (ao 0) (lC (.int 0))) (au))) (ao 1)) 4) <|
    aD (cQ (ao 0) (lC (.int 0)) (lOp fdivE (lCB intOf (aj (lOp ixA (ao 0) (lC (.int 0))) (au))) (ao 1))) <|
    aM (ao 4))
      (aQ)) <|
    aD (aY (lOp modE (lCB intOf (aj (lOp mulE (lOp bU (lOp ixA (ao 0) (lC (.int 1))) (lC (.int 1))) (lC (.int 39373))) (au))) (lC (.int 1000000007))) 5) <|
    aD (aY (lOp modE (lCB intOf (aj (lOp mulE (lOp modE (lCB intOf (aj (lOp mulE (ao 5) (ao 5)) (au))) (lC (.int 998244353))) (lC (.int 30011))) (au))) (lC (.int 998244353))) 6) <|
    aM (lOp modE (lCB intOf (aj (lOp fdivE (ao 6) (lC (.int 7))) (au))) (ao 1))
def rdOne : LS :=
    aM (lOp ixA (ao 1) (aA spTake (aj (ao 0) (aj (lCB dM (aj (ao 1) (au))) (au)))))
def rdMixed : LS :=
    aD (aY (bM (au)) 2) <|
    aD (eE (lIt (ao 1)) (.nm 3)
      (bY (lBM "list" insertE (ao 2) (aj (aA spTake (aj (ao 0) (aj (lOp bU (lCB dM (aj (ao 2) (au))) (lC (.int 1))) (au)))) (aj (ao 3) (au)))))) <|
    aM (ao 2)
theorem pureBag (evs : List EV) (h : EH) (Q : EK) (q : spBag evs h Q) : rdBag (aN Q) (bJ ["_law_script", "_law_cell"] evs) h := by
  obtain ⟨ns, rfl, rfl, hl, q⟩ := q
  show rdBag (aN Q) [some (.ref 0), none] [.frz (ns.map EV.int)]
  simp only [rdBag, aD, aY, aM, dO, bY, aR, lOp, ao, lC, lB, lT, bR, lOr, cY, lIf, bA, gD, cM, au, aj, aU, bM, lCB, lBM, lSl, aV, aQ, eE, lIt, bW, dh, fQ, eU, dR, cQ, dB, lLc, jj, jc, aA, bV, gZ, gS, sZ, sS, dX, cA, eQ, fP, slE]
  have ec : cut (ns.map EV.int) none (some 63) = ns.map EV.int := by
    rw [show (63 : Int) = ((63 : Nat) : Int) from rfl, cut_to, List.take_of_length_le (by simpa using hl)]
  rw [ec]
  simp only [List.length_cons, List.length_nil, List.getElem?_append_right, Nat.le_refl, Nat.sub_self, gZ, Nat.zero_add]
  refine lc_map (fun v => match v with
    | .int i => EV.int (i.natAbs : Int)
    | _ => .non) _ ?_ (fun acc => by simp) (fun x hx acc ky hy => ?_) ?_
  · rw [List.length_map, bu]; omega
  · obtain ⟨c, hc, rfl⟩ := List.mem_map.mp hx
    simp only [gq, Pat.bind, aD, aY, aM, dO, bY, aR, lOp, ao, lC, lB, lT, bR, lOr, cY, lIf, bA, gD, cM, au, aj, aU, bM, lCB, lBM, lSl, aV, aQ, eE, lIt, bW, dh, fQ, eU, dR, cQ, dB, lLc, jj, jc, aA, bV, gZ, gS, sZ, sS, dX, cA, eQ, fP, absE]
    exact hy
  · rw [bu]
    refine ⟨by decide, ?_⟩
    refine q _ _ ⟨2, 0, 1234567891, 0, ns.map fun i => (i.natAbs : Int), ?_, ?_, ?_, by decide, by decide, by decide, ?_, ?_⟩
    · simp
    · simp
    · simp
    · simpa using hl
    · intro n hn
      obtain ⟨i, _, rfl⟩ := List.mem_map.mp hn
      omega
theorem lenBag (evs : List EV) (h : EH) (Q : EK) (q : spBag evs h Q) : evs.length = ["_law_script"].length := by
  obtain ⟨_, rfl, _⟩ := q; rfl
theorem take_end {b : Nat} {many : Int} {x y z : Int} {c : Nat} {ns : List Int} {Q : EK} {h h0 : EH} (hm : 0 < many) (hm2 : many < 2 ^ 60) (k0 : aP (is1 b) h0 h)
    (e1 : h[b]? = some (.lst [.int x, .int y, .int z, .ref c])) (e2 : h[c]? = some (.lst (ns.map EV.int))) (hcb : c < b) (hx : 0 ≤ x) (hy : 0 ≤ y) (hz : 0 ≤ z) (hnl : ns.length ≤ 63) (hn : ∀ n ∈ ns, 0 ≤ n)
    (q : ∀ d h', 0 ≤ d → d < many → aP (is1 b) h0 h' → bQ h' b → Q (.int d) h') {env : En} (he : env.length = 7) (h0 : env[0]? = some (some (.ref b))) (h1 : env[1]? = some (some (.int many))) :
    (aD (aR (lB (lOp gtE (lOp ixA (ao 0) (lC (.int 0))) (lC (.int 0))))
      (aD (aY (lOp modE (lCB intOf (aj (lOp ixA (ao 0) (lC (.int 0))) (au))) (ao 1)) 4) <|
    aD (cQ (ao 0) (lC (.int 0)) (lOp fdivE (lCB intOf (aj (lOp ixA (ao 0) (lC (.int 0))) (au))) (ao 1))) <|
    aM (ao 4))
      (aQ)) <|
    aD (aY (lOp modE (lCB intOf (aj (lOp mulE (lOp bU (lOp ixA (ao 0) (lC (.int 1))) (lC (.int 1))) (lC (.int 39373))) (au))) (lC (.int 1000000007))) 5) <|
    aD (aY (lOp modE (lCB intOf (aj (lOp mulE (lOp modE (lCB intOf (aj (lOp mulE (ao 5) (ao 5)) (au))) (lC (.int 998244353))) (lC (.int 30011))) (au))) (lC (.int 998244353))) 6) <|
    aM (lOp modE (lCB intOf (aj (lOp fdivE (ao 6) (lC (.int 7))) (au))) (ao 1))) (aN Q) env h := by
  obtain ⟨g0, g1, g2, g3, g4, g5, g6, rfl⟩ : ∃ a b c d e f g, env = [a, b, c, d, e, f, g] := by
    match env, he with
    | [a, b, c, d, e, f, g], _ => exact ⟨a, b, c, d, e, f, g, rfl⟩
  simp only [gZ, gS, Option.some.injEq] at h0 h1
  subst h0 h1
  simp only [aD, aY, aM, dO, bY, aR, lOp, ao, lC, lB, lT, bR, lOr, cY, lIf, bA, gD, cM, au, aj, aU, bM, lCB, lBM, lSl, aV, aQ, eE, lIt, bW, dh, fQ, eU, dR, cQ, dB, lLc, jj, jc, aA, bV, gZ, gS, sZ, sS, dX, cA, eQ, fP]
  refine ia_l e1 at0 ?_
  show if decide (0 < x) = true then _ else _
  split
  · refine ia_l e1 at0 ?_
    refine int_i ?_
    refine mod_i hm ?_
    refine ia_l e1 at0 ?_
    refine int_i ?_
    refine div_i hm (by omega) ?_
    refine sa_l e1 (k := 0) rfl ?_
    refine q _ _ (Int.emod_nonneg _ (by omega)) (Int.emod_lt_of_pos _ hm) (k0.trans (aP.set rfl)) ?_
    exact ⟨c, x / many, y, z, ns, oG e1, mZ e2 (Nat.ne_of_lt hcb), hcb, Int.ediv_nonneg hx (by omega), hy, hz, hnl, hn⟩
  · refine ia_l e1 at1 ?_
    refine rJ ?_
    refine mul_i (mulOk_r (by decide)) ?_
    refine int_i ?_
    refine mod_i (by decide) ?_
    generalize hE : (y + 1) * 39373 % 1000000007 = E
    have b1 : 0 ≤ E := by rw [← hE]; exact Int.emod_nonneg _ (by decide)
    have b2 : E < 1000000007 := by rw [← hE]; exact Int.emod_lt_of_pos _ (by decide)
    refine mul_i (mulOk_r (by omega)) ?_
    refine int_i ?_
    refine mod_i (by decide) ?_
    refine mul_i (mulOk_r (by decide)) ?_
    refine int_i ?_
    refine mod_i (by decide) ?_
    refine div_i (by decide) (by decide) ?_
    refine int_i ?_
    refine mod_i hm ?_
    exact q _ _ (Int.emod_nonneg _ (by omega)) (Int.emod_lt_of_pos _ hm) k0 ⟨c, x, y, z, ns, e1, e2, hcb, hx, hy, hz, hnl, hn⟩
theorem pureTake (evs : List EV) (h : EH) (Q : EK) (q : spTake evs h Q) : rdTake (aN Q) (bJ ["_law_bag_here", "_law_many", "_law_cell", "_law_mixed_here", "_law_drawn", "_law_early", "_law_second"] evs) h := by
  obtain ⟨b, many, rfl, hm, hm2, ⟨c, x, y, z, ns, e1, e2, hcb, hx, hy, hz, hnl, hn⟩, q⟩ := q
  show rdTake (aN Q) [some (.ref b), some (.int many), none, none, none, none, none] h
  unfold rdTake
  rw [aD, aR]
  simp only [lB, lOp, ao, lC, gZ, gS]
  refine ia_l e1 at0 ?_
  refine rM ?_
  dsimp only
  split
  · simp only [aD, aY, dB, cQ, lOp, ao, lC, lSl, aV, bM, aj, au, lCB, gZ, gS, sZ, sS]
    refine ia_l e1 at3 ?_
    refine ia_l e1 at2 ?_
    refine sl_l e2 ?_
    refine ⟨by rw [bu]; decide, ?_⟩
    obtain ⟨zn, rfl⟩ := Int.eq_ofNat_of_zero_le hz
    rw [qj]
    have g1 : (h ++ [EO.lst ((ns.map EV.int).drop zn)] ++ [.lst [.int 0]])[h.length]? = some (.lst ((ns.map EV.int).drop zn)) := by simp
    have g2 : (h ++ [EO.lst ((ns.map EV.int).drop zn)] ++ [.lst [.int 0]])[(h ++ [EO.lst ((ns.map EV.int).drop zn)]).length]? = some (.lst [.int 0]) := bK
    refine add_l g1 g2 ?_ ?_
    · simp only [List.length_drop, List.length_map, List.length_singleton]
      rw [bu]; omega
    obtain ⟨v, vs, hv0, hv⟩ : ∃ (v : Int) (vs : List EV), 0 ≤ v ∧ (ns.map EV.int).drop zn ++ [.int 0] = .int v :: vs := by
      cases hd : ns.drop zn with
      | nil => exact ⟨0, [], by decide, by rw [← List.map_drop, hd]; rfl⟩
      | cons n r => exact ⟨n, r.map EV.int ++ [.int 0], hn n (List.mem_of_mem_drop (i := zn) (by rw [hd]; exact List.mem_cons_self)), by rw [← List.map_drop, hd]; rfl⟩
    rw [hv]
    refine ia_l bK at0 ?_
    generalize hg : h ++ [EO.lst ((ns.map EV.int).drop zn)] ++ [.lst [.int 0]] ++ [.lst (.int v :: vs)] = hA
    have kA : aP (is1 b) h hA := by
      rw [← hg, List.append_assoc, List.append_assoc]; exact aP.app _
    have a1 : hA[b]? = some (.lst [.int x, .int y, .int zn, .ref c]) := by
      rw [← hg]; exact dW (dW (dW e1 _) _) _
    have a2 : hA[c]? = some (.lst (ns.map EV.int)) := kA.2 _ _ e2 (Nat.ne_of_lt hcb)
    clear hg g1 g2
    refine get_l a1 (by decide) rfl ?_
    dsimp only
    refine set_l a1 (k := 2) rfl ?_
    simp only [sZ, sS]
    have b1 := oG (o := EO.lst ([.int x, .int y, .int (zn + 1), .ref c] : List EV)) a1
    have b2 := mZ (o := EO.lst ([.int x, .int y, .int (zn + 1), .ref c] : List EV)) a2 (Nat.ne_of_lt hcb)
    have kB := kA.trans (aP.set (o := EO.lst ([.int x, .int y, .int (zn + 1), .ref c] : List EV)) (show is1 b b from rfl))
    generalize hA.set b (.lst ([.int x, .int y, .int (zn + 1), .ref c] : List EV)) = hB at b1 b2 kB ⊢
    refine pow_i (by unfold CPow; decide) ?_
    refine ge_i ?_
    refine int_b ?_
    refine mul_i (mulOk_r (by split <;> decide)) ?_
    have hx' : 0 ≤ v * (if decide ((10 : Int) ^ Int.toNat 18 ≤ v) = true then 1 else 0) := by
      split <;> omega
    generalize v * (if decide ((10 : Int) ^ Int.toNat 18 ≤ v) = true then (1 : Int) else 0) = x' at hx' ⊢
    refine sa_l b1 (k := 0) rfl ?_
    simp only [sZ, sS]
    have c1 := oG (o := EO.lst ([.int x', .int y, .int (zn + 1), .ref c] : List EV)) b1
    have c2 := mZ (o := EO.lst ([.int x', .int y, .int (zn + 1), .ref c] : List EV)) b2 (Nat.ne_of_lt hcb)
    have kC := kB.trans (aP.set (o := EO.lst ([.int x', .int y, .int (zn + 1), .ref c] : List EV)) (show is1 b b from rfl))
    generalize hB.set b (.lst ([.int x', .int y, .int (zn + 1), .ref c] : List EV)) = hC at c1 c2 kC ⊢
    refine ia_l c1 at1 ?_
    refine mul_i (mulOk_r (by decide)) ?_
    refine int_i ?_
    refine mod_i (by decide) ?_
    refine rJ ?_
    refine ia_l c1 at2 ?_
    refine mul_i (mulOk_l (by decide)) ?_
    refine rJ ?_
    refine int_i ?_
    refine mod_i (by decide) ?_
    have hy' : 0 ≤ (y * 48271 + v % 2147483647 + 7919 * ((zn : Int) + 1)) % 2147483647 := Int.emod_nonneg _ (by decide)
    generalize (y * 48271 + v % 2147483647 + 7919 * ((zn : Int) + 1)) % 2147483647 = y' at hy' ⊢
    refine sa_l c1 (k := 1) rfl ?_
    simp only [sZ, sS]
    have d1 := oG (o := EO.lst ([.int x', .int y', .int (zn + 1), .ref c] : List EV)) c1
    have d2 := mZ (o := EO.lst ([.int x', .int y', .int (zn + 1), .ref c] : List EV)) c2 (Nat.ne_of_lt hcb)
    have kD := kC.trans (aP.set (o := EO.lst ([.int x', .int y', .int (zn + 1), .ref c] : List EV)) (show is1 b b from rfl))
    exact take_end (env := [some (.ref b), some (.int many), some (.int v), some _, none, none, none]) hm hm2 kD d1 d2 hcb hx' hy' (by omega) hnl hn q rfl rfl rfl
  · exact take_end (env := [some (.ref b), some (.int many), none, none, none, none, none]) hm hm2 .refl e1 e2 hcb hx hy hz hnl hn q rfl rfl rfl
theorem lenTake (evs : List EV) (h : EH) (Q : EK) (q : spTake evs h Q) : evs.length = ["_law_bag_here", "_law_many"].length := by
  obtain ⟨_, _, rfl, _⟩ := q; rfl
theorem aP.other {b l : Nat} {h h' : EH} {o : EO} (k : aP (is1 b) h h') (e : h[l]? = some o) (n : l ≠ b) : h'[l]? = some o := k.2 _ _ e n
theorem pureOne (evs : List EV) (h : EH) (Q : EK) (q : spOne evs h Q) : rdOne (aN Q) (bJ ["_law_bag_here", "_law_some"] evs) h := by
  obtain ⟨b, l, xs, rfl, e, hne, hl, hlb, B, q⟩ := q
  show rdOne (aN Q) [some (.ref b), some (.ref l)] h
  simp only [rdOne, aD, aY, aM, dO, bY, aR, lOp, ao, lC, lB, lT, bR, lOr, cY, lIf, bA, gD, cM, au, aj, aU, bM, lCB, lBM, lSl, aV, aQ, eE, lIt, bW, dh, fQ, eU, dR, cQ, dB, lLc, jj, jc, aA, bV, gZ, gS, sZ, sS, dX, cA, eQ, fP]
  refine len_l e ?_
  have hp : 0 < xs.length := List.length_pos_iff.mpr hne
  refine ⟨b, xs.length, rfl, by omega, by rw [bu] at hl; omega, B, fun d h1 d0 d1 k1 B1 => ?_⟩
  obtain ⟨n, rfl⟩ := Int.eq_ofNat_of_zero_le d0
  have hn : n < xs.length := by omega
  refine ia_l (k1.other e hlb) (L2.atI_nat (List.getElem?_eq_getElem hn)) ?_
  exact q _ _ (List.getElem_mem hn) k1 B1
theorem lenOne (evs : List EV) (h : EH) (Q : EK) (q : spOne evs h Q) : evs.length = ["_law_bag_here", "_law_some"].length := by
  obtain ⟨_, _, _, rfl, _⟩ := q; rfl
theorem bQ.keep {h h' : EH} {b : Nat} (B : bQ h b) (k : aP no1 h h') : bQ h' b := by
  obtain ⟨c, x, y, z, ns, e1, e2, r⟩ := B
  exact ⟨c, x, y, z, ns, k.at e1, k.at e2, r⟩
theorem bQ.lt {h : EH} {b : Nat} (B : bQ h b) : b < h.length := by
  obtain ⟨c, x, y, z, ns, e1, _⟩ := B
  exact jQ e1
theorem bQ.set {h : EH} {b r : Nat} {o : EO} (B : bQ h b) (n : b < r) : bQ (h.set r o) b := by
  obtain ⟨c, x, y, z, ns, e1, e2, l, r'⟩ := B
  exact ⟨c, x, y, z, ns, mZ e1 (Nat.ne_of_lt n), mZ e2 (Nat.ne_of_lt (Nat.lt_trans l n)), l, r'⟩
theorem pureMixed (evs : List EV) (h : EH) (Q : EK) (q : spMixed evs h Q) : rdMixed (aN Q) (bJ ["_law_bag_here", "_law_things", "_law_found", "_law_thing"] evs) h := by
  obtain ⟨b, l, xs, rfl, e, hl, hlb, B, q⟩ := q
  show rdMixed (aN Q) [some (.ref b), some (.ref l), none, none] h
  simp only [rdMixed, aD, aY, aM, dO, bY, aR, lOp, ao, lC, lB, lT, bR, lOr, cY, lIf, bA, gD, cM, au, aj, aU, bM, lCB, lBM, lSl, aV, aQ, eE, lIt, bW, dh, fQ, eU, dR, cQ, dB, lLc, jj, jc, aA, bV, gZ, gS, sZ, sS, dX, cA, eQ, fP, List.length_nil]
  refine ⟨by rw [bu]; decide, ?_⟩
  have hlt := jQ e
  have hbt := B.lt
  rw [dW e]
  refine loop_ind (fun left env h' => ∃ (done acc : List EV) (x : Option EV), xs = done ++ left ∧ acc.Perm done ∧ env = [some (.ref b), some (.ref l), some (.ref h.length), x] ∧ aP (is1 b) h h' ∧ h'[h.length]? = some (.lst acc) ∧ bQ h' b) ?_ ?_ _ _ _ ⟨[], [], none, rfl, .refl _, rfl, aP.app _, bK, B.keep (aP.app _)⟩
  · rintro env h' ⟨done, acc, x, rfl, p, rfl, k, e', B'⟩
    refine ⟨k.other e hlb, ?_⟩
    simp only [aD, aY, aM, dO, bY, aR, lOp, ao, lC, lB, lT, bR, lOr, cY, lIf, bA, gD, cM, au, aj, aU, bM, lCB, lBM, lSl, aV, aQ, eE, lIt, bW, dh, fQ, eU, dR, cQ, dB, lLc, jj, jc, aA, bV, gZ, gS, sZ, sS, dX, cA, eQ, fP]
    exact q _ _ _ (by simpa using p) k (Nat.le_refl _) e' B'
  · rintro x left env h' kk ⟨done, acc, x0, rfl, p, rfl, k, e', B'⟩ hk
    refine ⟨k.other e hlb, ?_⟩
    simp only [gq, Pat.bind, aD, aY, aM, dO, bY, aR, lOp, ao, lC, lB, lT, bR, lOr, cY, lIf, bA, gD, cM, au, aj, aU, bM, lCB, lBM, lSl, aV, aQ, eE, lIt, bW, dh, fQ, eU, dR, cQ, dB, lLc, jj, jc, aA, bV, gZ, gS, sZ, sS, dX, cA, eQ, fP, isTy, e']
    refine ⟨trivial, ?_⟩
    refine len_l e' ?_
    refine rJ ?_
    have hz : acc.length = done.length := p.length_eq
    simp only [List.length_append, List.length_cons] at hl
    refine ⟨b, acc.length + 1, rfl, by omega, by omega, B', fun d h1 d0 d1 k1 B1 => ?_⟩
    have hne : h.length ≠ b := by omega
    have e1 := k1.other e' hne
    refine ins_e e1 (by rw [bu]; omega) d0 (by omega) ?_
    refine hk _ _ ⟨done ++ [x], _, some x, by simp, ?_, rfl, ?_, oG e1, ?_⟩
    · have p1 : (List.take d.toNat acc ++ [x] ++ List.drop d.toNat acc).Perm (x :: acc) := by
        have e3 : List.take d.toNat acc ++ [x] ++ List.drop d.toNat acc = List.take d.toNat acc ++ x :: List.drop d.toNat acc := by simp
        rw [e3]
        exact List.perm_middle.trans (by rw [List.take_append_drop])
      refine p1.trans ((p.cons x).trans ?_)
      exact (List.perm_append_singleton x done).symm
    · exact (k.trans k1).fresh (Nat.le_refl _)
    · exact B1.set hbt
theorem lenMixed (evs : List EV) (h : EH) (Q : EK) (q : spMixed evs h Q) : evs.length = ["_law_bag_here", "_law_things"].length := by
  obtain ⟨_, _, _, rfl, _⟩ := q; rfl
def rdAlpha : LS :=
    aM (lSl (aA spMixed (aj (ao 0) (aj (bM (aj (lC (.int 0)) (aj (lC (.int 1)) (aj (lC (.int 2)) (aj (lC (.int 3)) (aj (lC (.int 48)) (aj (lC (.int 999999999)) (aj (lOp powE (lC (.int 10)) (lC (.int 9))) (au))))))))) (au)))) (aV none) (aV (some (aA spOne (aj (ao 0) (aj (bM (aj (lC (.int 2)) (aj (lC (.int 3)) (aj (lC (.int 2)) (aj (lC (.int 1)) (aj (lC (.int 4)) (au))))))) (au)))))))
def rdText : LS :=
    aM (lCB tupleOf (aj (lLc (bW (aj (aA spTake (aj (ao 0) (aj (lOp bU (ao 2) (lC (.int 1))) (au)))) (au))) (.nm 3) (rY) (aA spOne (aj (ao 0) (aj (ao 1) (au)))) [3]) (au)))
def rdFull : LS :=
    aM (lCB tupleOf (aj (lLc (bW (aj (ao 2) (au))) (.nm 3) (rY) (aA spOne (aj (ao 0) (aj (ao 1) (au)))) [3]) (au)))
def spAlpha : LSp := fun evs h Q => ∃ b : Nat, evs = [.ref b] ∧ bQ h b ∧ ∀ (r : Nat) (ns : List Int) (h' : EH), ns.Nodup → 0 < ns.length → ns.length ≤ 4 → (∀ n ∈ ns, 0 ≤ n ∧ n ≤ 1000000000) → aP (is1 b) h h' → h.length ≤ r → h'[r]? = some (.lst (ns.map EV.int)) → bQ h' b → Q (.ref r) h'
def spFull : LSp := fun evs h Q => ∃ (b l size : Nat) (ns : List Int), evs = [.ref b, .ref l, .int size] ∧ h[l]? = some (.lst (ns.map EV.int)) ∧ ns ≠ [] ∧ ns.length ≤ 1000 ∧ l ≠ b ∧ size ≤ 1000000 ∧ bQ h b ∧
  ∀ (ms : List Int) (h' : EH), ms.length = size → (∀ m ∈ ms, m ∈ ns) → aP (is1 b) h h' → bQ h' b → Q (.tup (ms.map EV.int)) h'
def spText : LSp := fun evs h Q => ∃ (b l most : Nat) (ns : List Int), evs = [.ref b, .ref l, .int most] ∧ h[l]? = some (.lst (ns.map EV.int)) ∧ ns ≠ [] ∧ ns.length ≤ 1000 ∧ l ≠ b ∧ most ≤ 1000000 ∧ bQ h b ∧
  ∀ (ms : List Int) (h' : EH), ms.length ≤ most → (∀ m ∈ ms, m ∈ ns) → aP (is1 b) h h' → bQ h' b → Q (.tup (ms.map EV.int)) h'
theorem pureAlpha (evs : List EV) (h : EH) (Q : EK) (q : spAlpha evs h Q) : rdAlpha (aN Q) (bJ ["_law_bag_here"] evs) h := by
  obtain ⟨b, rfl, B, q⟩ := q
  show rdAlpha (aN Q) [some (.ref b)] h
  simp only [rdAlpha, aD, aY, aM, dO, bY, aR, lOp, ao, lC, lB, lT, bR, lOr, cY, lIf, bA, gD, cM, au, aj, aU, bM, lCB, lBM, lSl, aV, aQ, eE, lIt, bW, dh, fQ, eU, dR, cQ, dB, lLc, jj, jc, aA, bV, gZ, gS, sZ, sS, cA, eQ, fP]
  refine ⟨by unfold CPow; decide, by simp [bu], ?_⟩
  have hb := B.lt
  have eM : [EV.int 0, EV.int 1, EV.int 2, EV.int 3, EV.int 48, EV.int 999999999, EV.int (10 ^ Int.toNat 9)] = ([0, 1, 2, 3, 48, 999999999, 1000000000] : List Int).map EV.int := by simp
  rw [eM]
  refine ⟨b, _, _, rfl, bK, by simp, Nat.ne_of_gt hb, B.keep (aP.app _), fun r ys h1 pm k1 g1 e1 B1 => ?_⟩
  refine ⟨by simp [bu], ?_⟩
  refine ⟨b, _, _, rfl, bK, by simp, by simp [bu], Nat.ne_of_gt B1.lt, B1.keep (aP.app _), fun x h2 hx k2 B2 => ?_⟩
  obtain ⟨zs, rfl, pz⟩ : ∃ zs : List Int, ys = zs.map EV.int ∧ zs.Perm [0, 1, 2, 3, 48, 999999999, 1000000000] := by
    have key : ∀ (ys : List EV) (l : List Int), ys.Perm (l.map EV.int) → ∃ zs : List Int, ys = zs.map EV.int ∧ zs.Perm l := by
      intro ys l hp
      have hs : ∀ y ∈ ys, ∃ i, y = EV.int i := fun y hy => by
        obtain ⟨i, _, rfl⟩ := List.mem_map.mp (hp.mem_iff.mp hy)
        exact ⟨i, rfl⟩
      let f : EV → Int := fun v => match v with
        | .int i => i
        | _ => 0
      refine ⟨ys.map f, ?_, ?_⟩
      · rw [List.map_map]
        conv => lhs; rw [← List.map_id ys]
        refine List.map_congr_left fun y hy => ?_
        obtain ⟨i, rfl⟩ := hs y hy
        rfl
      · have := hp.map f
        rw [List.map_map] at this
        rw [show l.map (f ∘ EV.int) = l from by
          conv => rhs; rw [← List.map_id l]
          rfl] at this
        exact this
    exact key _ _ pm
  obtain ⟨m, rfl, m1, m2⟩ : ∃ m : Nat, x = .int m ∧ 0 < m ∧ m ≤ 4 := by
    simp only [List.mem_cons, List.not_mem_nil, or_false] at hx
    rcases hx with rfl | rfl | rfl | rfl | rfl
    · exact ⟨2, rfl, by decide, by decide⟩
    · exact ⟨3, rfl, by decide, by decide⟩
    · exact ⟨2, rfl, by decide, by decide⟩
    · exact ⟨1, rfl, by decide, by decide⟩
    · exact ⟨4, rfl, by decide, by decide⟩
  simp only []
  have g2 : h.length + 1 ≤ r := by simpa using g1
  have e2 := k2.other (dW e1 _) (show r ≠ b by omega)
  refine sl_l e2 ?_
  rw [cut_to, ← List.map_take]
  have lz : zs.length = 7 := by rw [pz.length_eq]; rfl
  have kk : aP (is1 b) h h2 := ((aP.app _).trans k1).trans ((aP.app _).trans k2)
  refine q _ _ _ ?_ ?_ ?_ (fun n hn => ?_) (kk.trans (aP.app _)) kk.1 bK (B2.keep (aP.app _))
  · exact ((pz.nodup_iff).mpr (by decide)).sublist (List.take_sublist _ _)
  · rw [List.length_take]; omega
  · rw [List.length_take]; omega
  · have := pz.mem_iff.mp (List.mem_of_mem_take hn)
    simp only [List.mem_cons, List.not_mem_nil, or_false] at this
    omega
theorem pureFull (evs : List EV) (h : EH) (Q : EK) (q : spFull evs h Q) : rdFull (aN Q) (bJ ["_law_bag_here", "_law_letters", "_law_size", "_law_k"] evs) h := by
  obtain ⟨b, l, size, ns, rfl, e, ne, nl, hlb, hs, B, q⟩ := q
  show rdFull (aN Q) [some (.ref b), some (.ref l), some (.int size), none] h
  simp only [rdFull, aD, aY, aM, dO, bY, aR, lOp, ao, lC, lB, lT, bR, lOr, cY, lIf, bA, gD, cM, au, aj, aU, bM, lCB, lBM, lSl, aV, aQ, eE, lIt, bW, dh, fQ, eU, dR, cQ, dB, lLc, jj, jc, aA, bV, gZ, gS, sZ, sS, cA, eQ, fP]
  refine ⟨⟨by omega, by omega⟩, ?_⟩
  have hb := B.lt
  have hl := jQ e
  refine lc_ind (fun left acc h' => ∃ ms : List Int, acc = ms.map EV.int ∧ (∀ m ∈ ms, m ∈ ns) ∧ ms.length + left.length = size ∧ aP (is1 b) h h' ∧ bQ h' b ∧ ∀ v ∈ left, ∃ i : Int, v = .int i) ?_ ?_ _ [] _ bK ⟨[], rfl, fun c hc => by simp at hc, by simp [lG], aP.app _, B.keep (aP.app _), ?_⟩
  · rintro acc h4 ⟨ms, rfl, hm, hl4, k4, B4, _⟩ e4
    refine ⟨trivial, ?_⟩
    simp only [tupleOf, e4]
    exact q _ _ (by simpa using hl4) hm k4 B4
  · rintro x left acc h4 ky kn ⟨ms, rfl, hm, hl4, k4, B4, hle⟩ e4 hky _
    obtain ⟨xi, rfl⟩ := hle x (by simp)
    refine ⟨trivial, j5 ?_⟩
    simp only [rY, aD, aY, aM, dO, bY, aR, lOp, ao, lC, lB, lT, bR, lOr, cY, lIf, bA, gD, cM, au, aj, aU, bM, lCB, lBM, lSl, aV, aQ, eE, lIt, bW, dh, fQ, eU, dR, cQ, dB, lLc, jj, jc, aA, bV, gZ, gS, sZ, sS, cA, eQ, fP, if_true]
    refine ⟨b, l, _, rfl, k4.other e hlb, by simpa using ne, by rw [List.length_map, bu]; omega, hlb, B4, fun y h5 hy k5 B5 => ?_⟩
    obtain ⟨c, hc, rfl⟩ := List.mem_map.mp hy
    have hbl := B4.lt
    simp only [List.length_cons] at hl4
    refine hky _ _ (k5.other e4 (by omega)) (by rw [List.length_map, bu]; omega) ⟨ms ++ [c], by simp, ?_, by simp; omega, (k4.trans k5).fresh (Nat.le_refl _), B5.set hb, fun v hv => hle v (List.mem_cons_of_mem _ hv)⟩
    intro z hz
    rcases List.mem_append.mp hz with z1 | z1
    · exact hm z z1
    · rw [List.mem_singleton.mp z1]; exact hc
  · intro v hv
    unfold lG at hv
    obtain ⟨i, _, rfl⟩ := List.mem_map.mp hv
    exact ⟨_, rfl⟩
theorem pureText (evs : List EV) (h : EH) (Q : EK) (q : spText evs h Q) : rdText (aN Q) (bJ ["_law_bag_here", "_law_letters", "_law_most", "_law_k"] evs) h := by
  obtain ⟨b, l, most, ns, rfl, e, ne, nl, hlb, hs, B, q⟩ := q
  show rdText (aN Q) [some (.ref b), some (.ref l), some (.int most), none] h
  simp only [rdText, aD, aY, aM, dO, bY, aR, lOp, ao, lC, lB, lT, bR, lOr, cY, lIf, bA, gD, cM, au, aj, aU, bM, lCB, lBM, lSl, aV, aQ, eE, lIt, bW, dh, fQ, eU, dR, cQ, dB, lLc, jj, jc, aA, bV, gZ, gS, sZ, sS, cA, eQ, fP]
  refine rJ ?_
  refine ⟨b, most + 1, rfl, by omega, by omega, B, fun d h1 d0 d1 k1 B1 => ?_⟩
  obtain ⟨size, rfl⟩ := Int.eq_ofNat_of_zero_le d0
  have e := k1.other e hlb
  simp only []
  refine ⟨⟨by omega, by omega⟩, ?_⟩
  have hb := B1.lt
  have hl := jQ e
  refine lc_ind (fun left acc h' => ∃ ms : List Int, acc = ms.map EV.int ∧ (∀ m ∈ ms, m ∈ ns) ∧ ms.length + left.length = size ∧ aP (is1 b) h1 h' ∧ bQ h' b ∧ ∀ v ∈ left, ∃ i : Int, v = .int i) ?_ ?_ _ [] _ bK ⟨[], rfl, fun c hc => by simp at hc, by simp [lG], aP.app _, B1.keep (aP.app _), ?_⟩
  · rintro acc h4 ⟨ms, rfl, hm, hl4, k4, B4, _⟩ e4
    refine ⟨trivial, ?_⟩
    simp only [tupleOf, e4]
    simp only [List.length_nil, Nat.add_zero] at hl4
    exact q _ _ (by omega) hm (k1.trans k4) B4
  · rintro x left acc h4 ky kn ⟨ms, rfl, hm, hl4, k4, B4, hle⟩ e4 hky _
    obtain ⟨xi, rfl⟩ := hle x (by simp)
    refine ⟨trivial, j5 ?_⟩
    simp only [rY, aD, aY, aM, dO, bY, aR, lOp, ao, lC, lB, lT, bR, lOr, cY, lIf, bA, gD, cM, au, aj, aU, bM, lCB, lBM, lSl, aV, aQ, eE, lIt, bW, dh, fQ, eU, dR, cQ, dB, lLc, jj, jc, aA, bV, gZ, gS, sZ, sS, cA, eQ, fP, if_true]
    refine ⟨b, l, _, rfl, k4.other e hlb, by simpa using ne, by rw [List.length_map, bu]; omega, hlb, B4, fun y h5 hy k5 B5 => ?_⟩
    obtain ⟨c, hc, rfl⟩ := List.mem_map.mp hy
    have hbl := B4.lt
    simp only [List.length_cons] at hl4
    refine hky _ _ (k5.other e4 (by omega)) (by rw [List.length_map, bu]; omega) ⟨ms ++ [c], by simp, ?_, by simp; omega, (k4.trans k5).fresh (Nat.le_refl _), B5.set hb, fun v hv => hle v (List.mem_cons_of_mem _ hv)⟩
    intro z hz
    rcases List.mem_append.mp hz with z1 | z1
    · exact hm z z1
    · rw [List.mem_singleton.mp z1]; exact hc
  · intro v hv
    unfold lG at hv
    obtain ⟨i, _, rfl⟩ := List.mem_map.mp hv
    exact ⟨_, rfl⟩
structure Ad where
  a_Book : Addr
  a_Comparer : Addr
  a_Watch : Addr
  a_GainTable : Addr
  a_GameTable : Addr
  a_Lane : Addr
  a_Machine : Addr
  a_Nearest : Addr
  a_Prices : Addr
  a_Rulebook : Addr
  a_Sender : Addr
  a_Speaker : Addr
  a_Standing : Addr
  a_Writer : Addr
  a_Tails : Addr
  a_Teasing : Addr
  a_VersusTable : Addr
  a_WaitTable : Addr
  a_TURNED : Addr
  a_WORD_OF : Addr
  a_WORDS : Addr
  a_STEP_OF : Addr
  a_EarlyError : Addr
  a_AlreadyEnded : Addr
  a_BadArrow : Addr
  a_BadLine : Addr
  a_BadRule : Addr
  a_BeyondEnd : Addr
  a_Broken : Addr
  a_Contradiction : Addr
  a_DoesNotFit : Addr
  a_Ended : Addr
  a_EndsShort : Addr
  a_Finished : Addr
  a_KeepNotShown : Addr
  a_NeedsNoPromise : Addr
  a_NoDeed : Addr
  a_NoElder : Addr
  a_NoRule : Addr
  a_NoSaying : Addr
  a_NoStand : Addr
  a_NoSuchLetter : Addr
  a_NoTick : Addr
  a_NoWait : Addr
  a_NotARing : Addr
  a_NotAScript : Addr
  a_NotAWalk : Addr
  a_NotClaimed : Addr
  a_NotComparable : Addr
  a_NotHeights : Addr
  a_NotLet : Addr
  a_NotOnRim : Addr
  a_NotSent : Addr
  a_NotWhole : Addr
  a_Nothing : Addr
  a_Stopped : Addr
  a_TooMany : Addr
  a_UnderLag : Addr
  a_UnderTotal : Addr
  a_Unsettled : Addr
  a_Wrong : Addr
theorem atI_n {α : Type} (xs : List α) (i : Nat) : atI xs (i : Int) = xs[i]? := by
  by_cases h : i < xs.length
  · exact (L2.atI_nat (List.getElem?_eq_getElem h)).trans (List.getElem?_eq_getElem h).symm
  · rw [List.getElem?_eq_none (by omega)]
    unfold atI ixN
    rw [if_pos (by omega), if_neg (by omega)]
    rfl
theorem atI_0 {α : Type} (xs : List α) : atI xs 0 = xs[0]? := atI_n xs 0
theorem atI_1 {α : Type} (xs : List α) : atI xs 1 = xs[1]? := atI_n xs 1
theorem atI_2 {α : Type} (xs : List α) : atI xs 2 = xs[2]? := atI_n xs 2
theorem atI_3 {α : Type} (xs : List α) : atI xs 3 = xs[3]? := atI_n xs 3
def qC (_ : Ad) : LSp := spBag
def aH (_ : Ad) : LSp := spTake
def bz (_ : Ad) : LSp := spOne
def pK (_ : Ad) : LSp := spMixed
def jg (_ : Ad) : LSp := spAlpha
def oO (_ : Ad) : LSp := spText
def o9 (_ : Ad) : LSp := spFull
abbrev N__law_bag : List Str := ["_law_script", "_law_cell"]
def t__law_bag (ad : Ad) : LS :=
    aM (bM (aj (lC (.int 0)) (aj (lC (.int 1234567891)) (aj (lC (.int 0)) (aj (lLc (lIt (lSl (ao 0) (aV none) (aV (some (lC (.int 63)))))) (.nm 1) (rY) (lCB absE (aj (ao 1) (au))) [1]) (au))))))
abbrev N__law_take : List Str := ["_law_bag_here", "_law_many", "_law_cell", "_law_mixed_here", "_law_drawn", "_law_early", "_law_second"]
def t__law_take (ad : Ad) : LS :=
    aD (aR (lB (lOp (eqE false) (lOp ixA (ao 0) (lC (.int 0))) (lC (.int 0))))
      (aD (aY (lOp ixA (lOp bU (lSl (lOp ixA (ao 0) (lC (.int 3))) (aV (some (lOp ixA (ao 0) (lC (.int 2))))) (aV none)) (bM (aj (lC (.int 0)) (au)))) (lC (.int 0))) 2) <|
    aD (dB (fun i j => i + j) (ao 0) (lC (.int 2)) (lC (.int 1))) <|
    aD (cQ (ao 0) (lC (.int 0)) (lOp mulE (ao 2) (lCB intOf (aj (lOp geE (ao 2) (lOp powE (lC (.int 10)) (lC (.int 18)))) (au))))) <|
    aD (aY (lOp bU (lOp bU (lOp mulE (lOp ixA (ao 0) (lC (.int 1))) (lC (.int 48271))) (lOp modE (lCB intOf (aj (ao 2) (au))) (lC (.int 2147483647)))) (lOp mulE (lC (.int 7919)) (lOp ixA (ao 0) (lC (.int 2))))) 3) <|
    cQ (ao 0) (lC (.int 1)) (lOp modE (lCB intOf (aj (ao 3) (au))) (lC (.int 2147483647))))
      (aQ)) <|
    aD (aR (lB (lOp gtE (lOp ixA (ao 0) (lC (.int 0))) (lC (.int 0))))
      (aD (aY (lOp modE (lCB intOf (aj (lOp ixA (ao 0) (lC (.int 0))) (au))) (ao 1)) 4) <|
    aD (cQ (ao 0) (lC (.int 0)) (lOp fdivE (lCB intOf (aj (lOp ixA (ao 0) (lC (.int 0))) (au))) (ao 1))) <|
    aM (ao 4))
      (aQ)) <|
    aD (aY (lOp modE (lCB intOf (aj (lOp mulE (lOp bU (lOp ixA (ao 0) (lC (.int 1))) (lC (.int 1))) (lC (.int 39373))) (au))) (lC (.int 1000000007))) 5) <|
    aD (aY (lOp modE (lCB intOf (aj (lOp mulE (lOp modE (lCB intOf (aj (lOp mulE (ao 5) (ao 5)) (au))) (lC (.int 998244353))) (lC (.int 30011))) (au))) (lC (.int 998244353))) 6) <|
    aM (lOp modE (lCB intOf (aj (lOp fdivE (ao 6) (lC (.int 7))) (au))) (ao 1))
abbrev N__law_one : List Str := ["_law_bag_here", "_law_some"]
def t__law_one (ad : Ad) : LS :=
    aM (lOp ixA (ao 1) (aA (aH ad) (aj (ao 0) (aj (lCB dM (aj (ao 1) (au))) (au)))))
abbrev N__law_mixed : List Str := ["_law_bag_here", "_law_things", "_law_found", "_law_thing"]
def t__law_mixed (ad : Ad) : LS :=
    aD (aY (bM (au)) 2) <|
    aD (eE (lIt (ao 1)) (.nm 3)
      (bY (lBM "list" insertE (ao 2) (aj (aA (aH ad) (aj (ao 0) (aj (lOp bU (lCB dM (aj (ao 2) (au))) (lC (.int 1))) (au)))) (aj (ao 3) (au)))))) <|
    aM (ao 2)
abbrev N__law_alphabet : List Str := ["_law_bag_here"]
def t__law_alphabet (ad : Ad) : LS :=
    aM (lSl (aA (pK ad) (aj (ao 0) (aj (bM (aj (lC (.int 0)) (aj (lC (.int 1)) (aj (lC (.int 2)) (aj (lC (.int 3)) (aj (lC (.int 48)) (aj (lC (.int 999999999)) (aj (lOp powE (lC (.int 10)) (lC (.int 9))) (au))))))))) (au)))) (aV none) (aV (some (aA (bz ad) (aj (ao 0) (aj (bM (aj (lC (.int 2)) (aj (lC (.int 3)) (aj (lC (.int 2)) (aj (lC (.int 1)) (aj (lC (.int 4)) (au))))))) (au)))))))
abbrev N__law_text : List Str := ["_law_bag_here", "_law_letters", "_law_most", "_law_k"]
def t__law_text (ad : Ad) : LS :=
    aM (lCB tupleOf (aj (lLc (bW (aj (aA (aH ad) (aj (ao 0) (aj (lOp bU (ao 2) (lC (.int 1))) (au)))) (au))) (.nm 3) (rY) (aA (bz ad) (aj (ao 0) (aj (ao 1) (au)))) [3]) (au)))
abbrev N__law_full : List Str := ["_law_bag_here", "_law_letters", "_law_size", "_law_k"]
def t__law_full (ad : Ad) : LS :=
    aM (lCB tupleOf (aj (lLc (bW (aj (ao 2) (au))) (.nm 3) (rY) (aA (bz ad) (aj (ao 0) (aj (ao 1) (au)))) [3]) (au)))
theorem pure__law_bag (ad : Ad) (evs : List EV) (h : EH) (Q : EK) (q : qC ad evs h Q) : t__law_bag ad (aN Q) (bJ N__law_bag evs) h := pureBag evs h Q q
theorem pure__law_take (ad : Ad) (evs : List EV) (h : EH) (Q : EK) (q : aH ad evs h Q) : t__law_take ad (aN Q) (bJ N__law_take evs) h := pureTake evs h Q q
theorem pure__law_one (ad : Ad) (evs : List EV) (h : EH) (Q : EK) (q : bz ad evs h Q) : t__law_one ad (aN Q) (bJ N__law_one evs) h := pureOne evs h Q q
theorem pure__law_mixed (ad : Ad) (evs : List EV) (h : EH) (Q : EK) (q : pK ad evs h Q) : t__law_mixed ad (aN Q) (bJ N__law_mixed evs) h := pureMixed evs h Q q
theorem pure__law_alphabet (ad : Ad) (evs : List EV) (h : EH) (Q : EK) (q : jg ad evs h Q) : t__law_alphabet ad (aN Q) (bJ N__law_alphabet evs) h := pureAlpha evs h Q q
theorem pure__law_text (ad : Ad) (evs : List EV) (h : EH) (Q : EK) (q : oO ad evs h Q) : t__law_text ad (aN Q) (bJ N__law_text evs) h := pureText evs h Q q
theorem pure__law_full (ad : Ad) (evs : List EV) (h : EH) (Q : EK) (q : o9 ad evs h Q) : t__law_full ad (aN Q) (bJ N__law_full evs) h := pureFull evs h Q q
theorem len__law_bag (ad : Ad) (evs : List EV) (h : EH) (Q : EK) (q : qC ad evs h Q) : evs.length = ["_law_script"].length := lenBag evs h Q q
theorem len__law_take (ad : Ad) (evs : List EV) (h : EH) (Q : EK) (q : aH ad evs h Q) : evs.length = ["_law_bag_here", "_law_many"].length := lenTake evs h Q q
theorem len__law_one (ad : Ad) (evs : List EV) (h : EH) (Q : EK) (q : bz ad evs h Q) : evs.length = ["_law_bag_here", "_law_some"].length := lenOne evs h Q q
theorem len__law_mixed (ad : Ad) (evs : List EV) (h : EH) (Q : EK) (q : pK ad evs h Q) : evs.length = ["_law_bag_here", "_law_things"].length := lenMixed evs h Q q
theorem len__law_alphabet (ad : Ad) (evs : List EV) (h : EH) (Q : EK) (q : jg ad evs h Q) : evs.length = ["_law_bag_here"].length := by obtain ⟨_, rfl, _⟩ := q; rfl
theorem len__law_text (ad : Ad) (evs : List EV) (h : EH) (Q : EK) (q : oO ad evs h Q) : evs.length = ["_law_bag_here", "_law_letters", "_law_most"].length := by obtain ⟨_, _, _, _, rfl, _⟩ := q; rfl
theorem len__law_full (ad : Ad) (evs : List EV) (h : EH) (Q : EK) (q : o9 ad evs h Q) : evs.length = ["_law_bag_here", "_law_letters", "_law_size"].length := by obtain ⟨_, _, _, _, rfl, _⟩ := q; rfl
end Y
namespace Y
def omin : Option Int → Option Int → Option Int
  | none, b => b
  | a, none => a
  | some a, some b => some (min a b)
def oadd (a : Option Int) (k : Int) : Option Int := a.map (· + k)
structure GridOf where
  same : Nat → Nat → Bool
  drop : Nat → Int
  put : Nat → Int
  lag : Nat → Nat → Bool
end Y
namespace Y
open PySem PySem.Spec PyProof.Rows L2
abbrev tx (xs : List Int) : EV := .tup (xs.map EV.int)
def pairE (p : Int × Int) : EV := .tup [.int p.1, .int p.2]
inductive Prom where
  | none | total (g : Int) | lag (g : Int)
def Prom.e : Prom → EV
  | .none => .tup [.str [110, 111, 110, 101]]
  | .total g => .tup [.str [116, 111, 116, 97, 108], .int g]
  | .lag g => .tup [.str [108, 97, 103], .int g]
def Prom.ok : Prom → Nat → Nat → Bool
  | .lag g, i, j => decide ((((i : Int) - j).natAbs : Int) ≤ g)
  | _, _, _ => true
abbrev Tab := List (Int × (Int × Int))
def je (l : Tab) : List (EV × EV) := l.map fun q => (.int q.1, pairE q.2)
def cost (l : Tab) (x : Int) : Int × Int := (l.lookup x).getD (1, 1)
def PrAt (ad : Ad) (h : EH) (r : Nat) (l : Tab) : Prop := ∃ d, h[r]? = some (.slo ad.a_Prices [some (.ref d)]) ∧ h[d]? = some (.dic (je l))
def mvI (i c : Nat) : Nat := if c = 112 then i else i + 1
def mvJ (j c : Nat) : Nat := if c = 100 then j else j + 1
def isStep (c : Nat) : Prop := c = 107 ∨ c = 100 ∨ c = 112
def canDo (l r : List Int) (c i j : Nat) : Bool := if c = 112 then decide (j < r.length) else if c = 100 then decide (i < l.length) else decide (i < l.length) && decide (j < r.length) && decide (l.getD i 0 = r.getD j 0)
structure Wd where
  l : List Int
  r : List Int
  c : Tab
  p : Prom
def Told (h : EH) (xs : List EV) (Q : EK) : Prop := ∀ r h', aP no1 h h' → h.length ≤ r → h'[r]? = some (.lst xs) → Q (.ref r) h'
theorem tx_at {l : List Int} {i : Nat} (hi : i < l.length) : atI (l.map EV.int) (i : Int) = some (.int (l.getD i 0)) := by
  refine L2.atI_nat ?_
  rw [List.getElem?_map, List.getElem?_eq_getElem hi, List.getD_eq_getElem?_getD, List.getElem?_eq_getElem hi]; rfl
theorem tab_get (l : Tab) (x : Int) : (dGet (je l) (.int x)).getD (.tup [.int 1, .int 1]) = pairE (cost l x) := by
  induction l with
  | nil => rfl
  | cons q l ih =>
    obtain ⟨k, c⟩ := q
    unfold je at ih ⊢
    rw [List.map_cons, dGet]
    by_cases e : k = x
    · subst e; simp [kEq, cost]
    · have e2 : (x == k) = false := by simpa using fun z => e z.symm
      simpa [kEq, e, cost, List.lookup_cons, e2] using ih
theorem app_f {h : EH} {r : Nat} {xs : List EV} {v : EV} {P : EK} (e : h[r]? = some (.lst xs)) (hl : xs.length < sizeLine) (p : P .non (h.set r (.lst (xs ++ [v])))) : fL (.ref r) [v] h P := by
  unfold fL jB; simp only [e]; exact ⟨hl, p⟩
theorem ext_f {h : EH} {r r2 : Nat} {xs ys : List EV} {P : EK} (e : h[r]? = some (.lst xs)) (e2 : h[r2]? = some (.lst ys)) (hl : xs.length + ys.length ≤ sizeLine) (p : P .non (h.set r (.lst (xs ++ ys)))) : rZ (.ref r) [.ref r2] h P := by
  unfold rZ jB; simp only [e, e2]; exact ⟨hl, p⟩
theorem isTy_l {h : EH} {r : Nat} {xs : List EV} (e : h[r]? = some (.lst xs)) : isTy "list" (.ref r) h := by
  unfold isTy; simp only [e]
def lg (ad : Ad) : LSp := fun evs h Q => ∃ (b l most : Nat) (xs ns : List Int), evs = [.ref b, tx xs, .ref l, .int most] ∧ h[l]? = some (.lst (ns.map EV.int)) ∧ ns ≠ [] ∧ ns.length ≤ 1000 ∧ l ≠ b ∧ xs.length ≤ 1000000 ∧ (∀ x ∈ xs, x ∈ ns) ∧ bQ h b ∧
  ∀ (ms : List Int) (h' : EH), ms.length ≤ most → (∀ m ∈ ms, m ∈ ns) → aP (is1 b) h h' → bQ h' b → Q (tx ms) h'
abbrev N__law_edited : List Str := ["_law_bag_here", "_law_text_here", "_law_letters", "_law_most", "_law_found", "_law_letter", "_law_way"]
def pN (ad : Ad) : LS :=
    aD (aY (bM (au)) 4) <|
    aD (eE (lIt (ao 1)) (.nm 5)
      (aD (aY (aA (aH ad) (aj (ao 0) (aj (lC (.int 9)) (au)))) 6) <|
    aR (lB (lOp (eqE false) (ao 6) (lC (.int 0))))
      (bY (lBM "list" rZ (ao 4) (aj (bM (aj (aA (bz ad) (aj (ao 0) (aj (ao 2) (au)))) (aj (ao 5) (au)))) (au))))
      (aR (lB (lOp (eqE false) (ao 6) (lC (.int 1))))
      (bY (lBM "list" rZ (ao 4) (aj (bM (aj (ao 5) (aj (ao 5) (au)))) (au))))
      (aR (lB (lOp (eqE false) (ao 6) (lC (.int 2))))
      (bY (lBM "list" fL (ao 4) (aj (aA (bz ad) (aj (ao 0) (aj (ao 2) (au)))) (au))))
      (aR (lB (lOp gtE (ao 6) (lC (.int 3))))
      (bY (lBM "list" fL (ao 4) (aj (ao 5) (au))))
      (aQ)))))) <|
    aD (aR (lB (lOp (eqE false) (aA (aH ad) (aj (ao 0) (aj (lC (.int 4)) (au)))) (lC (.int 0))))
      (bY (lBM "list" fL (ao 4) (aj (aA (bz ad) (aj (ao 0) (aj (ao 2) (au)))) (au))))
      (aQ)) <|
    aM (lCB tupleOf (aj (lSl (ao 4) (aV none) (aV (some (ao 3)))) (au)))
theorem len__law_edited (ad : Ad) (evs : List EV) (h : EH) (Q : EK) (q : lg ad evs h Q) : evs.length = ["_law_bag_here", "_law_text_here", "_law_letters", "_law_most"].length := by
  obtain ⟨_, _, _, _, _, rfl, _⟩ := q; rfl
theorem pure__law_edited (ad : Ad) (evs : List EV) (h : EH) (Q : EK) (q : lg ad evs h Q) : pN ad (aN Q) (bJ N__law_edited evs) h := by
  obtain ⟨b, l, most, xs, ns, rfl, e, ne, nl, hlb, hxl, hx, B, q⟩ := q
  show pN ad (aN Q) [some (.ref b), some (tx xs), some (.ref l), some (.int most), none, none, none] h
  simp only [pN, aD, aY, aM, dO, bY, aR, lOp, ao, lC, lB, lT, bR, lOr, cY, lIf, bA, gD, cM, au, aj, aU, bM, lCB, lBM, lSl, aV, aQ, eE, lIt, bW, dh, fQ, eU, dR, cQ, dB, lLc, jj, jc, aA, bV, gZ, gS, sZ, sS, dX, cA, eQ, fP, List.length_nil, tx]
  refine ⟨by rw [bu]; decide, ?_⟩
  have hb := B.lt
  have hl := jQ e
  have drw : ∀ (h2 : EH) (P : EK), aP (is1 b) h h2 → bQ h2 b → (∀ m h3, m ∈ ns → aP (is1 b) h2 h3 → bQ h3 b → P (.int m) h3) → bz ad [.ref b, .ref l] h2 P := by
    intro h2 P k2 B2 p
    refine ⟨b, l, _, rfl, k2.other e hlb, by simpa using ne, by rw [List.length_map, bu]; omega, hlb, B2, fun x h' hx k' B' => ?_⟩
    obtain ⟨m, hm, rfl⟩ := List.mem_map.mp hx
    exact p m h' hm k' B'
  refine loop_ind (fun left env h' => ∃ (ms rest : List Int) (x5 x6 : Option EV), left = rest.map EV.int ∧ (∀ m ∈ rest, m ∈ ns) ∧ (∀ m ∈ ms, m ∈ ns) ∧ ms.length + 2 * rest.length ≤ 2 * xs.length ∧ env = [some (.ref b), some (.tup (xs.map EV.int)), some (.ref l), some (.int most), some (.ref h.length), x5, x6] ∧ aP (is1 b) h h' ∧ bQ h' b ∧ h'[h.length]? = some (.lst (ms.map EV.int))) ?_ ?_ _ _ _ ⟨[], xs, none, none, rfl, hx, by simp, by simp, rfl, aP.app _, B.keep (aP.app _), bK⟩
  · rintro env h' ⟨ms, rest, x5, x6, el, hr, hms, hz, rfl, k, B', e'⟩
    obtain rfl : rest = [] := by simpa using el.symm
    refine ⟨trivial, ?_⟩
    simp only [aD, aY, aM, dO, bY, aR, lOp, ao, lC, lB, lT, bR, lOr, cY, lIf, bA, gD, cM, au, aj, aU, bM, lCB, lBM, lSl, aV, aQ, eE, lIt, bW, dh, fQ, eU, dR, cQ, dB, lLc, jj, jc, aA, bV, gZ, gS, sZ, sS, cA, eQ, fP]
    refine ⟨b, 4, rfl, by decide, by decide, B', fun d h1 d0 d1 k1 B1 => ?_⟩
    refine rM ?_
    have e1 := k1.other e' (by omega)
    simp only [List.length_nil, Nat.mul_zero, Nat.add_zero] at hz
    have fin : ∀ (ms : List Int) h2, aP (is1 b) h h2 → bQ h2 b → h2[h.length]? = some (.lst (ms.map EV.int)) → (∀ m ∈ ms, m ∈ ns) → slE (.ref h.length) none (some (most : Int)) h2 fun x h1 => tupleOf [x] h1 Q := by
      intro ms h2 k2 B2 e2 hm2
      refine sl_l e2 ?_
      rw [cut_to]
      simp only [tupleOf, bK]
      rw [← List.map_take]
      exact q _ _ (by simp; omega) (fun m hm => hm2 m (List.mem_of_mem_take hm)) (k2.trans (aP.app _)) (B2.keep (aP.app _))
    simp only [Bool.false_xor]
    split
    · refine ⟨isTy_l e1, drw _ _ (k.trans k1) B1 fun m h3 hm k3 B3 => ?_⟩
      have e3 := k3.other e1 (by omega)
      refine app_f e3 (by rw [List.length_map, bu]; omega) ?_
      exact fin (ms ++ [m]) _ (((k.trans k1).trans k3).fresh (Nat.le_refl _)) (B3.set hb) (by rw [oG e3]; simp) (fun x hx => by
        rcases List.mem_append.mp hx with z | z
        · exact hms x z
        · rw [List.mem_singleton.mp z]; exact hm)
    · exact fin ms _ (k.trans k1) B1 e1 hms
  · rintro x left env h' kk ⟨ms, rest, x5, x6, el, hr, hms, hz, rfl, k, B', e'⟩ hk
    obtain ⟨c, rest, rfl⟩ : ∃ c r, rest = c :: r := by
      cases rest with
      | nil => simp at el
      | cons c r => exact ⟨c, r, rfl⟩
    rw [List.map_cons, List.cons.injEq] at el
    obtain ⟨rfl, rfl⟩ := el
    refine ⟨trivial, j5 ?_⟩
    simp only [aD, aY, aM, dO, bY, aR, lOp, ao, lC, lB, lT, bR, lOr, cY, lIf, bA, gD, cM, au, aj, aU, bM, lCB, lBM, lSl, aV, aQ, eE, lIt, bW, dh, fQ, eU, dR, cQ, dB, lLc, jj, jc, aA, bV, gZ, gS, sZ, sS, cA, eQ, fP]
    refine ⟨b, 9, rfl, by decide, by decide, B', fun d h1 d0 d1 k1 B1 => ?_⟩
    have e1 := k1.other e' (by omega)
    have k01 := k.trans k1
    simp only [List.length_cons] at hz
    have hcm : c ∈ ns := hr c (by simp)
    have fin : ∀ (ys : List Int) h2, aP (is1 b) h h2 → bQ h2 b → h2[h.length]? = some (.lst (ms.map EV.int)) → (∀ m ∈ ys, m ∈ ns) → ys.length ≤ 2 → kk [some (.ref b), some (.tup (xs.map EV.int)), some (.ref l), some (.int most), some (.ref h.length), some (.int c), some (.int d)] (h2.set h.length (.lst (ms.map EV.int ++ ys.map EV.int))) := by
      intro ys h2 k2 B2 e2 hy hyl
      refine hk _ _ ⟨ms ++ ys, rest, _, _, rfl, fun m hm => hr m (by simp [hm]), fun m hm => ?_, by simp; omega, rfl, k2.fresh (Nat.le_refl _), B2.set hb, by rw [oG e2]; simp⟩
      rcases List.mem_append.mp hm with z | z
      · exact hms m z
      · exact hy m z
    refine rM ?_
    simp only [Bool.false_xor]
    split
    · refine ⟨isTy_l e1, drw _ _ k01 B1 fun m h3 hm k3 B3 => ⟨by simp [bu], ?_⟩⟩
      have e3 := k3.other e1 (by omega)
      refine ext_f (dW e3 _) bK (by simp [bu]; omega) ?_
      exact fin [m, c] _ ((k01.trans k3).trans (aP.app _)) (B3.keep (aP.app _)) (dW e3 _) (by simp [hm, hcm]) (by simp)
    · refine rM ?_
      simp only [Bool.false_xor]
      split
      · refine ⟨isTy_l e1, by simp [bu], ?_⟩
        refine ext_f (dW e1 _) bK (by simp [bu]; omega) ?_
        exact fin [c, c] _ (k01.trans (aP.app _)) (B1.keep (aP.app _)) (dW e1 _) (by simp [hcm]) (by simp)
      · refine rM ?_
        simp only [Bool.false_xor]
        split
        · refine ⟨isTy_l e1, drw _ _ k01 B1 fun m h3 hm k3 B3 => ?_⟩
          have e3 := k3.other e1 (by omega)
          refine app_f e3 (by rw [List.length_map, bu]; omega) ?_
          exact fin [m] _ (k01.trans k3) B3 e3 (by simp [hm]) (by simp)
        · refine gt_i ?_
          dsimp only
          split
          · refine ⟨isTy_l e1, app_f e1 (by rw [List.length_map, bu]; omega) ?_⟩
            exact fin [c] _ k01 B1 e1 (by simp [hcm]) (by simp)
          · refine hk _ _ ⟨ms, rest, _, _, rfl, fun m hm => hr m (by simp [hm]), hms, by omega, rfl, k01, B1, e1⟩
def mJ (ad : Ad) : LSp := fun evs h Q => ∃ (b l most : Nat) (ns : List Int), evs = [.ref b, .ref l, .int most] ∧ h[l]? = some (.lst (ns.map EV.int)) ∧ ns ≠ [] ∧ ns.length ≤ 1000 ∧ l ≠ b ∧ 0 < most ∧ most < 1000 ∧ bQ h b ∧
  ∀ (xs ys : List Int) (h' : EH), xs.length ≤ most → ys.length ≤ most → (∀ m ∈ xs, m ∈ ns) → (∀ m ∈ ys, m ∈ ns) → aP (is1 b) h h' → bQ h' b → Q (.tup [tx xs, tx ys]) h'
abbrev N__law_texts : List Str := ["_law_bag_here", "_law_letters", "_law_most", "_law_way", "_law_ring", "_law_base"]
def sU (ad : Ad) : LS :=
    aD (aY (aA (aH ad) (aj (ao 0) (aj (lC (.int 4)) (au)))) 3) <|
    aD (aR (lB (lOp (eqE false) (ao 3) (lC (.int 0))))
      (aM (aU (aj (aA (oO ad) (aj (ao 0) (aj (ao 1) (aj (ao 2) (au))))) (aj (aA (oO ad) (aj (ao 0) (aj (ao 1) (aj (ao 2) (au))))) (au)))))
      (aQ)) <|
    aD (aR (lB (lOp (eqE false) (ao 3) (lC (.int 1))))
      (aD (aY (lOp mulE (aA (o9 ad) (aj (ao 0) (aj (ao 1) (aj (lOp bU (lC (.int 1)) (aA (aH ad) (aj (ao 0) (aj (lC (.int 3)) (au))))) (au))))) (lOp bU (ao 2) (lC (.int 1)))) 4) <|
    aM (aU (aj (lSl (ao 4) (aV none) (aV (some (aA (aH ad) (aj (ao 0) (aj (lOp bU (ao 2) (lC (.int 1))) (au))))))) (aj (lSl (lSl (ao 4) (aV (some (lC (.int 1)))) (aV none)) (aV none) (aV (some (aA (aH ad) (aj (ao 0) (aj (lOp bU (ao 2) (lC (.int 1))) (au))))))) (au)))))
      (aQ)) <|
    aD (aY (aA (o9 ad) (aj (ao 0) (aj (ao 1) (aj (lOp bU (lC (.int 1)) (aA (aH ad) (aj (ao 0) (aj (ao 2) (au))))) (au))))) 5) <|
    aM (aU (aj (aA (lg ad) (aj (ao 0) (aj (ao 5) (aj (ao 1) (aj (ao 2) (au)))))) (aj (aA (lg ad) (aj (ao 0) (aj (ao 5) (aj (ao 1) (aj (ao 2) (au)))))) (au))))
theorem len__law_texts (ad : Ad) (evs : List EV) (h : EH) (Q : EK) (q : mJ ad evs h Q) : evs.length = ["_law_bag_here", "_law_letters", "_law_most"].length := by
  obtain ⟨_, _, _, _, rfl, _⟩ := q; rfl
theorem repN_map (k : Int) (xs : List Int) : repN k (xs.map EV.int) = (repN k xs).map EV.int := by
  unfold repN
  rw [List.map_flatten, List.map_replicate]
theorem repN_mem {k : Int} {xs : List Int} {x : Int} (h : x ∈ repN k xs) : x ∈ xs := by
  unfold repN at h
  obtain ⟨l, hl, hx⟩ := List.mem_flatten.mp h
  rw [List.eq_of_mem_replicate hl] at hx
  exact hx
theorem pure__law_texts (ad : Ad) (evs : List EV) (h : EH) (Q : EK) (q : mJ ad evs h Q) : sU ad (aN Q) (bJ N__law_texts evs) h := by
  obtain ⟨b, l, most, ns, rfl, e, ne, nl, hlb, m0, m1, B, q⟩ := q
  show sU ad (aN Q) [some (.ref b), some (.ref l), some (.int most), none, none, none] h
  simp only [sU, aD, aY, aM, dO, bY, aR, lOp, ao, lC, lB, lT, bR, lOr, cY, lIf, bA, gD, cM, au, aj, aU, bM, lCB, lBM, lSl, aV, aQ, eE, lIt, bW, dh, fQ, eU, dR, cQ, dB, lLc, jj, jc, aA, bV, gZ, gS, sZ, sS, cA, eQ, fP]
  have cl : ∀ (l : List Int) (x : Int), (∀ y ∈ l, y ∈ ns) → x ∈ l → x ∈ ns := fun l x z h => z x h
  refine ⟨b, 4, rfl, by decide, by decide, B, fun d h1 d0 d1 k1 B1 => rM ?_⟩
  have e1 := k1.other e hlb
  simp only [Bool.false_xor]
  split
  · refine ⟨b, l, most, ns, rfl, e1, ne, nl, hlb, by omega, B1, fun xs h2 xl xm k2 B2 => ?_⟩
    have e2 := k2.other e1 hlb
    refine ⟨b, l, most, ns, rfl, e2, ne, nl, hlb, by omega, B2, fun ys h3 yl ym k3 B3 => ?_⟩
    exact ⟨by simp [bu], q _ _ _ xl yl xm ym ((k1.trans k2).trans k3) B3⟩
  · refine rM ?_
    simp only [Bool.false_xor]
    split
    · refine ⟨b, 3, rfl, by decide, by decide, B1, fun d2 h2 d20 d21 k2 B2 => rJ ?_⟩
      obtain ⟨z, rfl⟩ := Int.eq_ofNat_of_zero_le d20
      refine ⟨b, l, 1 + z, ns, by simp, k2.other e1 hlb, ne, nl, hlb, by omega, B2, fun xs h3 xl xm k3 B3 => ?_⟩
      refine rJ ?_
      refine ⟨⟨by rintro z; have := congrArg List.length z; simp at this; simp [this] at xl; omega, by omega, by omega, by simp; omega⟩, ?_⟩
      rw [repN_map]
      refine ⟨b, (most : Int) + 1, rfl, by omega, by omega, B3, fun d3 h4 d30 d31 k4 B4 => ?_⟩
      obtain ⟨z3, rfl⟩ := Int.eq_ofNat_of_zero_le d30
      simp only [slE]
      refine ⟨b, (most : Int) + 1, rfl, by omega, by omega, B4, fun d4 h5 d40 d41 k5 B5 => ?_⟩
      obtain ⟨z4, rfl⟩ := Int.eq_ofNat_of_zero_le d40
      simp only []
      refine ⟨by simp [bu], ?_⟩
      rw [show (1 : Int) = ((1 : Nat) : Int) from rfl, qj, cut_to, cut_to, ← List.map_take, ← List.map_drop, ← List.map_take]
      refine q _ _ _ (by simp; omega) (by simp; omega) (fun m hm => xm m (repN_mem (List.mem_of_mem_take hm))) (fun m hm => xm m (repN_mem (List.mem_of_mem_drop (List.mem_of_mem_take hm)))) ((((k1.trans k2).trans k3).trans k4).trans k5) B5
    · refine ⟨b, most, rfl, by omega, by omega, B1, fun d2 h2 d20 d21 k2 B2 => rJ ?_⟩
      obtain ⟨z, rfl⟩ := Int.eq_ofNat_of_zero_le d20
      have e2 := k2.other e1 hlb
      refine ⟨b, l, 1 + z, ns, by simp, e2, ne, nl, hlb, by omega, B2, fun xs h3 xl xm k3 B3 => ?_⟩
      have e3 := k3.other e2 hlb
      refine ⟨b, l, most, xs, ns, rfl, e3, ne, nl, hlb, by omega, xm, B3, fun ys h4 yl ym k4 B4 => ?_⟩
      refine ⟨b, l, most, xs, ns, rfl, k4.other e3 hlb, ne, nl, hlb, by omega, xm, B4, fun zs h5 zl zm k5 B5 => ?_⟩
      exact ⟨by simp [bu], q _ _ _ yl zl ym zm ((((k1.trans k2).trans k3).trans k4).trans k5) B5⟩
structure TabOk (l : Tab) : Prop where
  nd : (l.map (·.1)).Nodup
  rg : ∀ q ∈ l, (0 ≤ q.1 ∧ q.1 ≤ 1000000000) ∧ (1 ≤ q.2.1 ∧ q.2.1 ≤ 9) ∧ (1 ≤ q.2.2 ∧ q.2.2 ≤ 9)
theorem tab_put {t : Tab} {x : Int} {c : Int × Int} (h : x ∉ t.map (·.1)) : dPut (je t) (.int x) (pairE c) = je (t ++ [(x, c)]) := by
  have g : dGet (je t) (.int x) = none := by
    induction t with
    | nil => rfl
    | cons q t ih =>
      simp only [List.map_cons, List.mem_cons, not_or] at h
      unfold je at ih ⊢
      rw [List.map_cons, dGet]
      rw [if_neg (by simp only [kEq, decide_eq_true_eq]; exact fun z => h.1 z.symm)]
      exact ih h.2
  unfold dPut dHas
  rw [g]
  simp [je]
def isInt : EV → Bool
  | .int _ => true
  | _ => false
def isBt (v : EV) (lo hi : Int) : Bool := match v with
  | .int i => decide (lo ≤ i) && decide (i ≤ hi)
  | _ => false
def areC : EV → Bool
  | .tup [a, b] => isBt a 1 9 && isBt b 1 9
  | _ => false
def mG (ad : Ad) : LSp := fun evs h Q => ∃ v t, evs = [v] ∧ tyE v h = some t ∧ Q (.bl (isInt v)) h
def jV (ad : Ad) : LSp := fun evs h Q => ∃ v t lo hi, evs = [v, .int lo, .int hi] ∧ tyE v h = some t ∧ Q (.bl (isBt v lo hi)) h
def rN (ad : Ad) : LSp := fun evs h Q => ∃ v t, evs = [v] ∧ tyE v h = some t ∧ Q (.bl (isBt v 0 1000000000)) h
def sO (ad : Ad) : LSp := fun evs h Q => ∃ v t, evs = [v] ∧ tyE v h = some t ∧ (∀ xs, v ≠ .ktup xs) ∧ (∀ xs, v = .tup xs → xs.length = 2 → ∀ x ∈ xs, ∃ t, ∀ h', aP no1 h h' → tyE x h' = some t) ∧ ∀ h', aP no1 h h' → Q (.bl (areC v)) h'
abbrev N_is_integer : List Str := ["thing"]
def sV (ad : Ad) : LS :=
    aM (bA (lCB sE (aj (ao 0) (aj (lC (.ty "int")) (au)))) (cM (lCB sE (aj (ao 0) (aj (lC (.ty "bool")) (au))))))
abbrev N_is_between : List Str := ["thing", "low", "high"]
def rW (ad : Ad) : LS :=
    aM (bA (aA (mG ad) (aj (ao 0) (au))) (bV leE leE (ao 1) (ao 0) (ao 2)))
abbrev N_is_letter : List Str := ["thing"]
def t_is_letter (ad : Ad) : LS :=
    aM (aA (jV ad) (aj (ao 0) (aj (lC (.int 0)) (aj (lC (.int 1000000000)) (au)))))
abbrev N_are_costs : List Str := ["thing", "one"]
def t_are_costs (ad : Ad) : LS :=
    aD (aR (lOr (cY (lT (lCB sE (aj (ao 0) (aj (lC (.ty "tuple")) (au)))))) (lB (lOp (eqE true) (lCB dM (aj (ao 0) (au))) (lC (.int 2)))))
      (aM (lC (.bl false)))
      (aQ)) <|
    aM (lCB allE (aj (lLc (lIt (ao 0)) (.nm 1) (rY) (aA (jV ad) (aj (ao 1) (aj (lC (.int 1)) (aj (lC (.int 9)) (au))))) [1]) (au)))
theorem len_is_integer (ad : Ad) (evs : List EV) (h : EH) (Q : EK) (q : mG ad evs h Q) : evs.length = ["thing"].length := by
  obtain ⟨_, _, rfl, _⟩ := q; rfl
theorem len_is_between (ad : Ad) (evs : List EV) (h : EH) (Q : EK) (q : jV ad evs h Q) : evs.length = ["thing", "low", "high"].length := by
  obtain ⟨_, _, _, _, rfl, _⟩ := q; rfl
theorem len_is_letter (ad : Ad) (evs : List EV) (h : EH) (Q : EK) (q : rN ad evs h Q) : evs.length = ["thing"].length := by
  obtain ⟨_, _, rfl, _⟩ := q; rfl
theorem len_are_costs (ad : Ad) (evs : List EV) (h : EH) (Q : EK) (q : sO ad evs h Q) : evs.length = ["thing"].length := by
  obtain ⟨_, _, rfl, _⟩ := q; rfl
theorem pure_is_integer (ad : Ad) (evs : List EV) (h : EH) (Q : EK) (q : mG ad evs h Q) : sV ad (aN Q) (bJ N_is_integer evs) h := by
  obtain ⟨v, t, rfl, ht, q⟩ := q
  show sV ad (aN Q) [some v] h
  have e : (isiB t "int" && !isiB t "bool") = isInt v := by
    cases v <;> simp [tyE] at ht <;> try (subst ht; rfl)
    split at ht <;> simp at ht <;> subst ht <;> rfl
  simp only [sV, aD, aY, aM, dO, bY, aR, lOp, ao, lC, lB, lT, bR, lOr, cY, lIf, bA, gD, cM, au, aj, aU, bM, lCB, lBM, lSl, aV, aQ, eE, lIt, bW, dh, fQ, eU, dR, cQ, dB, lLc, jj, jc, aA, bV, gZ, gS, sZ, sS, cA, eQ, fP, sE, ht]
  refine ⟨by simp, ?_⟩
  cases e1 : isiB t "int"
  · rw [e1] at e
    simp only [Bool.false_eq_true, if_false]
    rw [← e] at q; exact q
  · rw [e1] at e
    simp only [if_true, ht]
    refine ⟨by simp, ?_⟩
    rw [← e] at q
    simpa using q
theorem pure_is_between (ad : Ad) (evs : List EV) (h : EH) (Q : EK) (q : jV ad evs h Q) : rW ad (aN Q) (bJ N_is_between evs) h := by
  obtain ⟨v, t, lo, hi, rfl, ht, q⟩ := q
  show rW ad (aN Q) [some v, some (.int lo), some (.int hi)] h
  simp only [rW, aD, aY, aM, dO, bY, aR, lOp, ao, lC, lB, lT, bR, lOr, cY, lIf, bA, gD, cM, au, aj, aU, bM, lCB, lBM, lSl, aV, aQ, eE, lIt, bW, dh, fQ, eU, dR, cQ, dB, lLc, jj, jc, aA, bV, gZ, gS, sZ, sS, cA, eQ, fP]
  refine ⟨v, t, rfl, ht, ?_⟩
  cases v with
  | int i =>
    simp only [isInt, if_true, isBt] at q ⊢
    refine le_i ?_
    dsimp only
    by_cases h1 : lo ≤ i
    · simp only [h1, decide_true, Bool.true_and, if_true] at q ⊢
      exact le_i q
    · simpa [h1] using q
  | _ => simpa [isInt, isBt] using q
theorem pure_is_letter (ad : Ad) (evs : List EV) (h : EH) (Q : EK) (q : rN ad evs h Q) : t_is_letter ad (aN Q) (bJ N_is_letter evs) h := by
  obtain ⟨v, t, rfl, ht, q⟩ := q
  show t_is_letter ad (aN Q) [some v] h
  simp only [t_is_letter, aD, aY, aM, dO, bY, aR, lOp, ao, lC, lB, lT, bR, lOr, cY, lIf, bA, gD, cM, au, aj, aU, bM, lCB, lBM, lSl, aV, aQ, eE, lIt, bW, dh, fQ, eU, dR, cQ, dB, lLc, jj, jc, aA, bV, gZ, gS, sZ, sS, cA, eQ, fP]
  exact ⟨v, t, _, _, rfl, ht, q⟩
theorem pure_are_costs (ad : Ad) (evs : List EV) (h : EH) (Q : EK) (q : sO ad evs h Q) : t_are_costs ad (aN Q) (bJ N_are_costs evs) h := by
  obtain ⟨v, t, rfl, ht, nk, ok, q⟩ := q
  show t_are_costs ad (aN Q) [some v, none] h
  simp only [t_are_costs, aD, aY, aM, dO, bY, aR, lOp, ao, lC, lB, lT, bR, lOr, cY, lIf, bA, gD, cM, au, aj, aU, bM, lCB, lBM, lSl, aV, aQ, eE, lIt, bW, dh, fQ, eU, dR, cQ, dB, lLc, jj, jc, aA, bV, gZ, gS, sZ, sS, cA, eQ, fP, lT, sE, ht]
  refine ⟨by simp, ?_⟩
  simp only [dX]
  by_cases hv : ∃ xs, v = .tup xs
  · obtain ⟨xs, rfl⟩ := hv
    simp [tyE] at ht
    subst ht
    simp only [show isiB "tuple" "tuple" = true from rfl, Bool.not_true, Bool.false_eq_true, if_false, dM]
    refine rM ?_
    by_cases hl : xs.length = 2
    · simp only [hl]
      obtain ⟨a, b, rfl⟩ : ∃ a b, xs = [a, b] := by
        match xs, hl with
        | [a, b], _ => exact ⟨a, b, rfl⟩
      obtain ⟨ta, ha⟩ := ok _ rfl rfl a (by simp)
      obtain ⟨tb, hb⟩ := ok _ rfl rfl b (by simp)
      have fin := q (h ++ [.lst [.bl (isBt a 1 9), .bl (isBt b 1 9)]]) (aP.app _)
      simp only [lcE, gq, Pat.bind, aD, aY, aM, dO, bY, aR, lOp, ao, lC, lB, lT, bR, lOr, cY, lIf, bA, gD, cM, au, aj, aU, bM, lCB, lBM, lSl, aV, aQ, eE, lIt, bW, dh, fQ, eU, dR, cQ, dB, lLc, jj, jc, aA, bV, gZ, gS, sZ, sS, cA, eQ, fP, rY, jV, bK, new_set, lTrue]
      refine ⟨trivial, ?_⟩
      simp only [if_true]
      refine ⟨a, ta, 1, 9, rfl, ha _ (aP.app _), ?_⟩
      simp only [bK, new_set, List.length_nil, List.nil_append]
      refine ⟨by decide, trivial, ?_⟩
      refine ⟨b, tb, 1, 9, rfl, hb _ (aP.app _), ?_⟩
      simp only [bK, new_set, List.length_cons, List.length_nil]
      refine ⟨by decide, trivial, ?_⟩
      simp only [allE, quE, bK]
      refine ⟨[isBt a 1 9, isBt b 1 9], rfl, ?_⟩
      simpa [areC] using fin
    · rw [decide_eq_false (by omega)]
      simp only [Bool.xor_false, if_true]
      have e : areC (.tup xs) = false := by
        match xs, hl with
        | [], _ => rfl
        | [_], _ => rfl
        | [_, _], h => exact absurd rfl h
        | _ :: _ :: _ :: _, _ => rfl
      rw [← e]
      exact q _ .refl
  · have e : isiB t "tuple" = false := by
      cases v <;> simp [tyE] at ht <;> try (subst ht; rfl)
      · exact absurd ⟨_, rfl⟩ hv
      · exact absurd rfl (nk _)
      · split at ht <;> simp at ht <;> subst ht <;> rfl
    rw [e]
    simp only [Bool.not_false, if_true]
    have e2 : areC v = false := by
      cases v <;> first | rfl | exact absurd ⟨_, rfl⟩ hv
    rw [← e2]
    exact q _ .refl
def TabRg (l : Tab) : Prop := ∀ q ∈ l, (0 ≤ q.1 ∧ q.1 ≤ 1000000000) ∧ (1 ≤ q.2.1 ∧ q.2.1 ≤ 9) ∧ (1 ≤ q.2.2 ∧ q.2.2 ≤ 9)
def j7 (ad : Ad) : LSp := fun evs h Q => ∃ r l, evs = [.ref r] ∧ h[r]? = some (.dic (je l)) ∧ TabRg l ∧ l.length ≤ 1000 ∧ ∀ h', aP no1 h h' → Q (.bl true) h'
abbrev N_is_price_table : List Str := ["thing", "letter", "costs"]
def lQ (ad : Ad) : LS :=
    aD (aR (cY (lT (lCB sE (aj (ao 0) (aj (lC (.ty "dict")) (au))))))
      (aM (lC (.bl false)))
      (aQ)) <|
    aM (lCB allE (aj (lLockE (lLc (lItems (ao 0)) (.tp [.nm 1, .nm 2]) (rY) (bA (aA (rN ad) (aj (ao 1) (au))) (aA (sO ad) (aj (ao 2) (au)))) [1, 2])) (au)))
theorem len_is_price_table (ad : Ad) (evs : List EV) (h : EH) (Q : EK) (q : j7 ad evs h Q) : evs.length = ["thing"].length := by
  obtain ⟨_, _, rfl, _⟩ := q; rfl
theorem pure_is_price_table (ad : Ad) (evs : List EV) (h : EH) (Q : EK) (q : j7 ad evs h Q) : lQ ad (aN Q) (bJ N_is_price_table evs) h := by
  obtain ⟨r, l, rfl, e, rg, ll, q⟩ := q
  show lQ ad (aN Q) [some (.ref r), none, none] h
  simp only [lQ, aD, aY, aM, dO, bY, aR, lOp, ao, lC, lB, lT, bR, lOr, cY, lIf, bA, gD, cM, au, aj, aU, bM, lCB, lBM, lSl, aV, aQ, eE, lIt, bW, dh, fQ, eU, dR, cQ, dB, lLc, jj, jc, aA, bV, gZ, gS, sZ, sS, cA, eQ, fP, lT, sE, tyE, e]
  refine ⟨by simp, ?_⟩
  simp only [dX, show isiB "dict" "dict" = true from rfl, Bool.not_true, Bool.false_eq_true, if_false, lLockE]
  refine ⟨r, _, e, fun od l0 => ?_⟩
  have hr := jQ e
  simp only [aD, aY, aM, dO, bY, aR, lOp, ao, lC, lB, lT, bR, lOr, cY, lIf, bA, gD, cM, au, aj, aU, bM, lCB, lBM, lSl, aV, aQ, eE, lIt, bW, dh, fQ, eU, dR, cQ, dB, lLc, jj, jc, aA, bV, gZ, gS, sZ, sS, cA, eQ, fP, lItems, oG e]
  have d0 := oG (o := EO.dlk od l0 (je l)) e
  have k0 : ∀ h', aP no1 (h.set r (.dlk od l0 (je l))) h' → aP no1 h (h'.set r (.dic (je l))) := by
    intro h' k
    refine ⟨by simpa using k.1, fun x o hx _ => ?_⟩
    by_cases ex : x = r
    · subst ex
      rw [e] at hx
      cases hx
      have := k.at d0
      exact oG this
    · rw [List.getElem?_set_ne (fun z => ex z.symm)]
      exact k.at (mZ hx ex)
  generalize hh0 : h.set r (.dlk od l0 (je l)) = h0 at d0 k0
  refine lc_ind (fun left acc h' => ∃ rest, left = (je rest).map (fun p => EV.tup [p.1, p.2]) ∧ TabRg rest ∧ (∃ n, acc = (List.replicate n true).map EV.bl ∧ n + rest.length = l.length) ∧ aP no1 h0 h') ?_ ?_ _ [] _ bK ⟨l, rfl, rg, ⟨0, rfl, by simp⟩, aP.app _⟩
  · rintro acc h4 ⟨rest, el, rg', ⟨n, rfl, hn⟩, k⟩ e4
    have hne : h0.length ≠ r := by rw [← hh0]; simp; omega
    have := k.at d0
    refine ⟨this, this, ?_⟩
    simp only [allE, quE]
    rw [mZ e4 hne]
    exact ⟨_, rfl, by simpa using q _ (k0 _ k)⟩
  · rintro x left acc h4 ky kn ⟨rest, el, rg', ⟨n, rfl, hn⟩, k⟩ e4 hky _
    obtain ⟨c, rest, rfl⟩ : ∃ c r, rest = c :: r := by
      cases rest with
      | nil => simp [je] at el
      | cons c r => exact ⟨c, r, rfl⟩
    simp only [je, List.map_cons, List.cons.injEq] at el
    obtain ⟨rfl, rfl⟩ := el
    obtain ⟨g1, g2, g3⟩ := rg' c (by simp)
    refine ⟨k.at d0, ?_⟩
    simp only [gq, Pat.bind, Pat.binds, aD, aY, aM, dO, bY, aR, lOp, ao, lC, lB, lT, bR, lOr, cY, lIf, bA, gD, cM, au, aj, aU, bM, lCB, lBM, lSl, aV, aQ, eE, lIt, bW, dh, fQ, eU, dR, cQ, dB, lLc, jj, jc, aA, bV, gZ, gS, sZ, sS, cA, eQ, fP, rY, if_true]
    refine ⟨_, "int", rfl, rfl, ?_⟩
    rw [show isBt (.int c.1) 0 1000000000 = true by simp [isBt, g1]]
    simp only [if_true]
    refine ⟨_, "tuple", rfl, rfl, (fun xs z => EV.noConfusion z), fun xs ex hl x hx => ?_, fun h5 k5 => ?_⟩
    · unfold pairE at ex
      cases ex
      simp at hx
      rcases hx with rfl | rfl <;> exact ⟨"int", fun _ _ => rfl⟩
    · rw [show areC (pairE c.2) = true by simp [areC, pairE, isBt, g2, g3]]
      simp only [List.length_cons] at hn
      have l4 := jQ e4
      refine hky _ _ (k5.at e4) (by simp [bu]; omega) ⟨rest, rfl, fun q hq => rg' q (by simp [hq]), ⟨n + 1, by rw [List.replicate_succ']; simp, by omega⟩, (k.trans k5).fresh (Nat.le_refl _)⟩
def prTab (t : Tab) : Tab := (t.mergeSort fun a b => decide (a.1 ≤ b.1)).filter fun q => decide (q.2 ≠ (1, 1))
theorem lookup_mem_nd {t : Tab} {x : Int} {c : Int × Int} (nd : (t.map (·.1)).Nodup) : t.lookup x = some c ↔ (x, c) ∈ t := by
  induction t with
  | nil => simp
  | cons q t ih =>
    obtain ⟨k, d⟩ := q
    simp only [List.map_cons, List.nodup_cons] at nd
    rw [List.lookup_cons]
    by_cases e : x = k
    · subst e
      simp only [beq_self_eq_true, List.mem_cons, Prod.mk.injEq, true_and, Option.some.injEq]
      constructor
      · rintro rfl; exact .inl rfl
      · rintro (rfl | z)
        · rfl
        · exact absurd (List.mem_map.mpr ⟨_, z, rfl⟩) nd.1
    · have e2 : (x == k) = false := by simpa using e
      rw [e2]
      simp only [ih nd.2, List.mem_cons, Prod.mk.injEq, e, false_and, false_or]
theorem prTab_ok {t : Tab} (ok : TabOk t) : TabOk (prTab t) := by
  have p := List.mergeSort_perm t fun a b => decide (a.1 ≤ b.1)
  refine ⟨?_, fun q hq => ok.rg q (p.mem_iff.mp (List.mem_filter.mp hq |>.1))⟩
  refine List.Nodup.sublist (List.Sublist.map _ List.filter_sublist) ?_
  exact ((p.map (·.1)).nodup_iff).mpr ok.nd
theorem dc_tab {g : EH → Prop} {p : Pat} {tt : LTt} {tk tv : LT} {env : En} {P : EK} {h : EH} (f : EV → Option (Int × (Int × Int))) (xs : List EV) (hl : xs.length ≤ sizeLine) (hg : ∀ acc, g (h ++ [.dic acc])) (nd : ((xs.filterMap f).map (·.1)).Nodup)
    (step : ∀ x ∈ xs, ∀ acc (ky : EV → EV → EH → Prop) (kn : EH → Prop), (∀ q, f x = some q → ky (.int q.1) (pairE q.2) (h ++ [.dic acc])) → (f x = none → kn (h ++ [.dic acc])) →
      gq (h ++ [.dic acc]) p x env fun env2 => tt env2 (h ++ [.dic acc]) fun b h3 => if b = true then tk env2 h3 fun y h4 => tv env2 h4 fun z h5 => ky y z h5 else kn h3)
    (fin : P (.ref h.length) (h ++ [.dic (je (xs.filterMap f))])) : dcE g p tt tk tv h.length env P xs (h ++ [.dic []]) := by
  have key : ∀ ys (acc : Tab), (∀ x ∈ ys, x ∈ xs) → acc.length + ys.length ≤ xs.length → acc ++ ys.filterMap f = xs.filterMap f → dcE g p tt tk tv h.length env P ys (h ++ [.dic (je acc)]) := by
    intro ys
    induction ys with
    | nil =>
      intro acc _ _ e
      rw [dcE]
      rw [List.filterMap_nil, List.append_nil] at e
      exact ⟨hg _, by rw [e]; exact fin⟩
    | cons x ys ih =>
      intro acc hm hz e
      rw [dcE]
      simp only [List.length_cons] at hz
      refine ⟨hg _, step x (hm x (by simp)) _ _ _ (fun q hq => ?_) fun hq => ?_⟩
      · simp only [bK, new_set]
        refine ⟨trivial, by simp [je]; omega, ?_⟩
        rw [List.filterMap_cons, hq] at e
        have hk : q.1 ∉ acc.map (·.1) := by
          rw [← e] at nd
          simp only [List.map_append, List.map_cons] at nd
          rw [List.nodup_append] at nd
          intro z
          exact nd.2.2 _ z q.1 (by simp) rfl
        rw [tab_put hk]
        exact ih _ (fun z hz' => hm z (List.mem_cons_of_mem _ hz')) (by simp; omega) (by simpa using e)
      · refine ih _ (fun z hz' => hm z (List.mem_cons_of_mem _ hz')) (by omega) ?_
        rw [List.filterMap_cons, hq] at e
        exact e
  exact key xs [] (fun _ h => h) (by simp) (by simp)
theorem eqE_pairK {n : Bool} {a b c d : Int} {h : EH} {P : EK} (p : P (.bl (n ^^ decide ((a, b) = (c, d)))) h) : eqE n (.tup [.int a, .int b]) (.ktup [.int c, .int d]) h P := by
  unfold eqE
  refine ⟨.tuple [.int a, .int b], .tuple [.int c, .int d], .tup (.cons (.int _) (.cons (.int _) .nil)), .ktup (.cons (.int _) (.cons (.int _) .nil)), ?_⟩
  have e : PyData.eqv (.tuple [.int a, .int b]) (.tuple [.int c, .int d]) = decide ((a, b) = (c, d)) := by
    simp only [PyData.eqv, PyData.eqvAll]
    by_cases h1 : a = c <;> by_cases h2 : b = d <;> simp [h1, h2]
  rw [e]
  exact p
def fK (ad : Ad) : LSp := fun evs h Q => ∃ (p r : Nat) (t : Tab), evs = [.ref p, .ref r] ∧ h[p]? = some (.slo ad.a_Prices []) ∧ h[r]? = some (.dic (je t)) ∧ TabOk t ∧ t.length < 64 ∧
  ∀ h', aP (is1 p) h h' → PrAt ad h' p (prTab t) → Q .non h'
abbrev N_Prices___init__ : List Str := ["self", "table", "letter"]
def j8 (ad : Ad) : LS :=
    aD (aR (cY (lT (aA (j7 ad) (aj (ao 1) (au)))))
      (lNever)
      (aQ)) <|
    lSetAt [(ad.a_Prices, 0)] (ao 0) (lDc (lIt (lCB sortE (aj (ao 1) (au)))) (.nm 2) (lB (lOp (eqE true) (lOp ixA (ao 1) (ao 2)) (lC (.ktup [.int 1, .int 1])))) (ao 2) (lOp ixA (ao 1) (ao 2)) [2])
theorem len_Prices___init__ (ad : Ad) (evs : List EV) (h : EH) (Q : EK) (q : fK ad evs h Q) : evs.length = ["self", "table"].length := by
  obtain ⟨_, _, _, rfl, _⟩ := q; rfl
theorem pure_Prices___init__ (ad : Ad) (evs : List EV) (h : EH) (Q : EK) (q : fK ad evs h Q) : j8 ad (aN Q) (bJ N_Prices___init__ evs) h := by
  obtain ⟨p, r, t, rfl, ep, er, ok, tl, q⟩ := q
  show j8 ad (aN Q) [some (.ref p), some (.ref r), none] h
  simp only [j8, aD, aY, aM, dO, bY, aR, lOp, ao, lC, lB, lT, bR, lOr, cY, lIf, bA, gD, cM, au, aj, aU, bM, lCB, lBM, lSl, aV, aQ, eE, lIt, bW, dh, fQ, eU, dR, cQ, dB, lLc, jj, jc, aA, bV, gZ, gS, sZ, sS, cA, eQ, fP, lT]
  refine ⟨r, t, rfl, er, ok.rg, by omega, fun h1 k1 => ?_⟩
  simp only [dX, Bool.not_true, Bool.false_eq_true, if_false, lSetAt, lDc, aD, aY, aM, dO, bY, aR, lOp, ao, lC, lB, lT, bR, lOr, cY, lIf, bA, gD, cM, au, aj, aU, bM, lCB, lBM, lSl, aV, aQ, eE, lIt, bW, dh, fQ, eU, dR, cQ, dB, lLc, jj, jc, aA, bV, gZ, gS, sZ, sS, cA, eQ, fP, sortE, k1.at er]
  refine ⟨t.map (·.1), by simp [je], by simpa using tl, fun ys py sy => ?_⟩
  have pm := List.mergeSort_perm t fun a b => decide (a.1 ≤ b.1)
  have sm : (t.mergeSort fun a b => decide (a.1 ≤ b.1)).Pairwise fun a b => a.1 ≤ b.1 := by
    have := List.pairwise_mergeSort (le := fun (a b : Int × (Int × Int)) => decide (a.1 ≤ b.1)) (fun a b c => by simp only [decide_eq_true_eq]; omega) (fun a b => by simp only [Bool.or_eq_true, decide_eq_true_eq]; omega) t
    exact this.imp fun h => by simpa using h
  have ey : ys = (t.mergeSort fun a b => decide (a.1 ≤ b.1)).map (·.1) := by
    refine List.Perm.eq_of_pairwise (le := (· ≤ ·)) (fun a b _ _ h1 h2 => Int.le_antisymm h1 h2) sy ?_ (py.trans (pm.map (·.1)).symm)
    rw [List.pairwise_map]
    exact sm
  have k2 : aP no1 h (h1 ++ [.lst (ys.map EV.int)]) := k1.trans (aP.app _)
  have e1 := k2.at er
  simp only [bK]
  let f : EV → Option (Int × (Int × Int)) := fun v => match v with
    | .int x => if cost t x ≠ (1, 1) then some (x, cost t x) else none
    | _ => none
  have ef : (ys.map EV.int).filterMap f = prTab t := by
    rw [ey]
    have key : ∀ l : Tab, (∀ q ∈ l, cost t q.1 = q.2) → ((l.map (·.1)).map EV.int).filterMap f = l.filter fun q => decide (q.2 ≠ (1, 1)) := by
      intro l
      induction l with
      | nil => intro _; rfl
      | cons q l ih =>
        intro hq
        have h1 := hq q (by simp)
        rw [List.map_cons, List.map_cons, List.filterMap_cons, List.filter_cons, ih fun z hz => hq z (by simp [hz])]
        simp only [f, h1]
        by_cases h2 : q.2 = (1, 1)
        · simp [h2]
        · simp [h2]
    refine key _ fun q hq => ?_
    unfold cost
    rw [(lookup_mem_nd ok.nd).mpr (show (q.1, q.2) ∈ t from pm.mem_iff.mp hq)]
    rfl
  refine dc_tab f _ (by rw [List.length_map, ey, List.length_map, pm.length_eq, bu]; omega) (fun acc => dW bK _) ?_ (fun x hx acc ky kn hy hn => ?_) ?_
  · rw [ef]; exact (prTab_ok ok).nd
  · obtain ⟨x, hx', rfl⟩ := List.mem_map.mp hx
    simp only [gq, Pat.bind, aD, aY, aM, dO, bY, aR, lOp, ao, lC, lB, lT, bR, lOr, cY, lIf, bA, gD, cM, au, aj, aU, bM, lCB, lBM, lSl, aV, aQ, eE, lIt, bW, dh, fQ, eU, dR, cQ, dB, lLc, jj, jc, aA, bV, gZ, gS, sZ, sS, cA, eQ, fP]
    have hx2 : x ∈ t.map (·.1) := py.mem_iff.mp hx'
    have eg : dGet (je t) (.int x) = some (pairE (cost t x)) := by
      obtain ⟨q, hq, rfl⟩ := List.mem_map.mp hx2
      have h1 : t.lookup q.1 = some q.2 := (lookup_mem_nd ok.nd).mpr hq
      have g := tab_get t q.1
      cases e2 : dGet (je t) (.int q.1) with
      | some v => rw [e2] at g; simpa using g
      | none =>
        exfalso
        clear g hx hx' hy hn ef sm ey
        have key : ∀ l : Tab, q ∈ l → dGet (je l) (.int q.1) ≠ none := by
          intro l
          induction l with
          | nil => intro z; simp at z
          | cons a l ih =>
            intro z
            unfold je at ih ⊢
            rw [List.map_cons, dGet]
            by_cases ea : a.1 = q.1
            · rw [if_pos (by simp [kEq, ea])]; simp
            · rw [if_neg (by simp [kEq, ea])]
              rcases List.mem_cons.mp z with y | y
              · exact absurd (by rw [y]) ea
              · exact ih y
        exact key t hq e2
    have e3 := dW (dW e1 [.dic acc]) []
    refine ia_d (dW e1 _) trivial eg ?_
    unfold pairE
    refine eqE_pairK ?_
    dsimp only
    by_cases hc : cost t x = (1, 1)
    · rw [hc]
      exact hn (by simp [f, hc])
    · have hc' : ¬((cost t x).1, (cost t x).2) = (1, 1) := hc
      rw [decide_eq_false hc']
      simp only [Bool.xor_false, if_true]
      refine ia_d (dW e1 _) trivial eg ?_
      exact hy (x, cost t x) (by simp [f, hc])
  · rw [ef]
    have kf : aP no1 h (h1 ++ [.lst (ys.map EV.int)] ++ [.dic (je (prTab t))]) := k2.trans (aP.app _)
    have ep2 := kf.at ep
    simp only [ep2, List.lookup_cons, beq_self_eq_true]
    refine q _ ((kf.all (c := is1 p)).trans (aP.set rfl)) ⟨(h1 ++ [EO.lst (ys.map EV.int)]).length, ?_, ?_⟩
    · rw [oG ep2]; rfl
    · refine mZ bK ?_
      have := jQ (k2.at ep)
      omega
abbrev Tbl := Nat → Nat → Option Int
def upd (R : Tbl) (i j : Nat) (v : Option Int) : Tbl := fun a b => if a = i ∧ b = j then v else R a b
def Wd.g (w : Wd) : GridOf where
  same i j := decide (w.l.getD i 0 = w.r.getD j 0)
  drop i := (cost w.c (w.l.getD i 0)).1
  put j := (cost w.c (w.r.getD j 0)).2
  lag := w.p.ok
abbrev Wd.n (w : Wd) : Nat := w.l.length
abbrev Wd.m (w : Wd) : Nat := w.r.length
def PromNN : Prom → Prop
  | .lag g => 0 ≤ g
  | _ => True
def GridOf.rest (g : GridOf) (n m i j : Nat) : Option Int :=
  if g.lag i j = true then
    omin (if i = n ∧ j = m then some 0 else none)
      (omin (if _h : i < n ∧ j < m then (if g.same i j = true then g.rest n m (i + 1) (j + 1) else none) else none)
        (omin (if _h : i < n then oadd (g.rest n m (i + 1) j) (g.drop i) else none) (if _h : j < m then oadd (g.rest n m i (j + 1)) (g.put j) else none)))
  else none
  termination_by (n - i) + (m - j)
abbrev Wd.rest (w : Wd) : Tbl := w.g.rest w.n w.m
abbrev StepC (s : List Nat) : Prop := ∀ c ∈ s, isStep c
def isSt (c : Nat) : Bool := decide (c = 107) || decide (c = 100) || decide (c = 112)
def pY : EV → Bool
  | .str s => s.all isSt
  | _ => false
def oN (ad : Ad) : LSp := fun evs h Q => ∃ v, evs = [v] ∧ (tyE v h).isSome = true ∧ (∀ s, v = .str s → s.length ≤ 100000) ∧ ∀ h', aP no1 h h' → Q (.bl (pY v)) h'
abbrev N_is_script : List Str := ["thing", "sign"]
def t_is_script (ad : Ad) : LS :=
    aM (bA (lCB sE (aj (ao 0) (aj (lC (.ty "str")) (au)))) (lCB allE (aj (lLc (lIt (ao 0)) (.nm 1) (rY) (lOp (inA false) (ao 1) (lC (.str [107, 100, 112]))) [1]) (au))))
theorem len_is_script (ad : Ad) (evs : List EV) (h : EH) (Q : EK) (q : oN ad evs h Q) : evs.length = ["thing"].length := by
  obtain ⟨_, rfl, _⟩ := q; rfl
theorem pure_is_script (ad : Ad) (evs : List EV) (h : EH) (Q : EK) (q : oN ad evs h Q) : t_is_script ad (aN Q) (bJ N_is_script evs) h := by
  obtain ⟨v, rfl, ht, hl, q⟩ := q
  show t_is_script ad (aN Q) [some v, none] h
  obtain ⟨t, ht⟩ := Option.isSome_iff_exists.mp ht
  simp only [t_is_script, aD, aY, aM, dO, bY, aR, lOp, ao, lC, lB, lT, bR, lOr, cY, lIf, bA, gD, cM, au, aj, aU, bM, lCB, lBM, lSl, aV, aQ, eE, lIt, bW, dh, fQ, eU, dR, cQ, dB, lLc, jj, jc, aA, bV, gZ, gS, sZ, sS, cA, eQ, fP, sE, ht]
  refine ⟨by simp, ?_⟩
  by_cases hv : ∃ s, v = .str s
  · obtain ⟨s, rfl⟩ := hv
    simp [tyE] at ht
    subst ht
    simp only [show isiB "str" "str" = true from rfl, if_true]
    refine lc_map (fun v => match v with
      | .str [c] => EV.bl (isSt c)
      | _ => .non) _ (by rw [List.length_map, bu]; have := hl s rfl; omega) (fun acc => trivial) (fun x hx acc ky hy => ?_) ?_
    · obtain ⟨c, _, rfl⟩ := List.mem_map.mp hx
      simp only [gq, Pat.bind, aD, aY, aM, dO, bY, aR, lOp, ao, lC, lB, lT, bR, lOr, cY, lIf, bA, gD, cM, au, aj, aU, bM, lCB, lBM, lSl, aV, aQ, eE, lIt, bW, dh, fQ, eU, dR, cQ, dB, lLc, jj, jc, aA, bV, gZ, gS, sZ, sS, cA, eQ, fP, inA]
      have : (false ^^ decide (c ∈ [107, 100, 112])) = isSt c := by simp [isSt, Bool.decide_or, Bool.or_assoc]
      rw [this]
      exact hy
    · simp only [allE, quE, bK]
      refine ⟨s.map isSt, by rw [List.map_map, List.map_map]; rfl, ?_⟩
      rw [List.all_map]
      exact q _ (aP.app _)
  · have e1 : isiB t "str" = false := by
      cases v <;> simp [tyE] at ht <;> try (subst ht; rfl)
      · exact absurd ⟨_, rfl⟩ hv
      · split at ht <;> simp at ht <;> subst ht <;> rfl
    have e2 : pY v = false := by
      cases v <;> first | rfl | exact absurd ⟨_, rfl⟩ hv
    rw [e1]
    simp only [Bool.false_eq_true, if_false]
    rw [← e2]
    exact q _ .refl
def oc (n : Nat) : Option EV := if n = 0 then none else some (.int n)
def WorldAt (h : EH) (W : Nat) (v : EV) : Prop := ∃ (q : Nat) (l r : List Int) (t : Nat) (c : Tab) (p : Prom), v = .ref q ∧ W < q ∧ h[q]? = some (.lst [tx l, tx r, .ref t, p.e]) ∧ h[t]? = some (.dic (je c)) ∧ TabOk c ∧ c.length ≤ 40 ∧ l.length ≤ 9 ∧ r.length ≤ 9 ∧ PromNN p
structure Pk (h0 : EH) (b W L : Nat) (ns : List Int) (h : EH) (ws : List EV) : Prop where
  k : aP (is1 b) h0 h
  B : bQ h b
  w : h[W]? = some (.lst ws)
  a : ∀ v ∈ ws, WorldAt h W v
  l : h[L]? = some (.lst (ns.map EV.int))
theorem rangeL_nat (n : Nat) : lG 0 n = (List.range' 0 n).map fun (k : Nat) => EV.int k := by
  unfold lG
  rw [List.range_eq_range']
  refine List.map_congr_left fun k _ => ?_
  rw [Int.zero_add]
theorem loop_nat {g : EH → Prop} {p : Pat} {tb : LS} {D : qm} (n : Nat) (I : Nat → En → EH → Prop)
    (stop : ∀ env h, I n env h → g h ∧ D.nx env h)
    (turn : ∀ i env h (k : En → EH → Prop), i < n → I i env h → (∀ env' h', I (i + 1) env' h' → k env' h') → g h ∧ gq h p (.int (i : Nat)) env fun env2 => tb { D with nx := k, ct := k, bk := D.nx } env2 h) :
    ∀ env h, I 0 env h → loopE g p tb D (lG 0 n) env h := by
  intro env h i0
  rw [rangeL_nat]
  refine loop_ind (fun left env h => ∃ i : Nat, i ≤ n ∧ left = (List.range' i (n - i)).map (fun (k : Nat) => EV.int k) ∧ I i env h) ?_ ?_ _ _ _ ⟨0, Nat.zero_le _, rfl, i0⟩
  · rintro env h ⟨i, hi, el, z⟩
    have : i = n := by
      have := congrArg List.length el
      simp at this
      omega
    subst this
    exact stop env h z
  · rintro x left env h k ⟨i, hi, el, z⟩ hk
    have hi2 : i < n := by
      have := congrArg List.length el
      simp at this
      omega
    rw [show n - i = (n - i - 1) + 1 by omega, List.range'_succ, List.map_cons, List.cons.injEq] at el
    obtain ⟨rfl, rfl⟩ := el
    exact turn i env h k hi2 z fun env' h' z' => hk env' h' ⟨i + 1, hi2, by rw [show n - (i + 1) = n - i - 1 by omega], z'⟩
def stpN (l r : List Int) (i j : Nat) : List Nat := [107, 100, 112].filter fun c => canDo l r c i j
def stE (c : Nat) : EV := .str [c]
def mF (ad : Ad) : LSp := fun evs h Q => ∃ (l r : List Int) (i j : Nat), evs = [tx l, tx r, .int i, .int j] ∧ Told h ((stpN l r i j).map stE) Q
abbrev N__law_steps : List Str := ["_law_left", "_law_right", "_law_i", "_law_j", "_law_found"]
def iD (ad : Ad) : LS :=
    aD (aY (bM (au)) 4) <|
    aD (aR (bR (lB (lOp ltE (ao 2) (lCB dM (aj (ao 0) (au))))) (bR (lB (lOp ltE (ao 3) (lCB dM (aj (ao 1) (au))))) (lB (lOp (eqE false) (lOp ixA (ao 0) (ao 2)) (lOp ixA (ao 1) (ao 3))))))
      (bY (lBM "list" fL (ao 4) (aj (lC (.str [107])) (au))))
      (aQ)) <|
    aD (aR (lB (lOp ltE (ao 2) (lCB dM (aj (ao 0) (au)))))
      (bY (lBM "list" fL (ao 4) (aj (lC (.str [100])) (au))))
      (aQ)) <|
    aD (aR (lB (lOp ltE (ao 3) (lCB dM (aj (ao 1) (au)))))
      (bY (lBM "list" fL (ao 4) (aj (lC (.str [112])) (au))))
      (aQ)) <|
    aM (ao 4)
theorem len__law_steps (ad : Ad) (evs : List EV) (h : EH) (Q : EK) (q : mF ad evs h Q) : evs.length = ["_law_left", "_law_right", "_law_i", "_law_j"].length := by
  obtain ⟨_, _, _, _, rfl, _⟩ := q; rfl
theorem pure__law_steps (ad : Ad) (evs : List EV) (h : EH) (Q : EK) (q : mF ad evs h Q) : iD ad (aN Q) (bJ N__law_steps evs) h := by
  obtain ⟨l, r, i, j, rfl, q⟩ := q
  show iD ad (aN Q) [some (tx l), some (tx r), some (.int i), some (.int j), none] h
  have s0 : ∀ (x y z : EO), ((h ++ [x]).set h.length y).set h.length z = h ++ [z] := fun x y z => by simp
  have fin : ∀ xs : List EV, xs = (stpN l r i j).map stE → Q (.ref h.length) (h ++ [.lst xs]) := fun xs e => q _ _ (aP.app _) (Nat.le_refl _) (by rw [e]; exact bK)
  by_cases hi : i < l.length <;> by_cases hj : j < r.length
  · by_cases hs : l.getD i 0 = r.getD j 0
    · have hs' : l[i] = r[j] := by simpa [List.getD_eq_getElem?_getD, List.getElem?_eq_getElem hi, List.getElem?_eq_getElem hj] using hs
      have f := fin [.str [107], .str [100], .str [112]] (by simp [stpN, canDo, hi, hj, hs', stE, List.filter_cons])
      simp [iD, aD, aY, aM, dO, bY, aR, lOp, ao, lC, lB, lT, bR, lOr, cY, lIf, bA, gD, cM, au, aj, aU, bM, lCB, lBM, lSl, aV, aQ, eE, lIt, bW, dh, fQ, eU, dR, cQ, dB, lLc, jj, jc, aA, bV, gZ, gS, sZ, sS, dX, cA, eQ, fP, gq, Pat.bind, Pat.binds, eqE, geE, gtE, leE, ltE, eQ, fP, bU, subE, dM, ixA, ixE, isN, absE, intOf, isTy, attrE, atI_n, atI_0, atI_1, atI_2, atI_3, rY, hi, hj, hs', bu, bK, tx, fL, jB, Int.ofNat_lt] at f ⊢
      exact f
    · have hs' : ¬l[i] = r[j] := by simpa [List.getD_eq_getElem?_getD, List.getElem?_eq_getElem hi, List.getElem?_eq_getElem hj] using hs
      have f := fin [.str [100], .str [112]] (by simp [stpN, canDo, hi, hj, hs', stE, List.filter_cons])
      simp [iD, aD, aY, aM, dO, bY, aR, lOp, ao, lC, lB, lT, bR, lOr, cY, lIf, bA, gD, cM, au, aj, aU, bM, lCB, lBM, lSl, aV, aQ, eE, lIt, bW, dh, fQ, eU, dR, cQ, dB, lLc, jj, jc, aA, bV, gZ, gS, sZ, sS, dX, cA, eQ, fP, gq, Pat.bind, Pat.binds, eqE, geE, gtE, leE, ltE, eQ, fP, bU, subE, dM, ixA, ixE, isN, absE, intOf, isTy, attrE, atI_n, atI_0, atI_1, atI_2, atI_3, rY, hi, hj, hs', bu, bK, tx, fL, jB, Int.ofNat_lt] at f ⊢
      exact f
  · have f := fin [.str [100]] (by simp [stpN, canDo, hi, hj, stE, List.filter_cons])
    simp [iD, aD, aY, aM, dO, bY, aR, lOp, ao, lC, lB, lT, bR, lOr, cY, lIf, bA, gD, cM, au, aj, aU, bM, lCB, lBM, lSl, aV, aQ, eE, lIt, bW, dh, fQ, eU, dR, cQ, dB, lLc, jj, jc, aA, bV, gZ, gS, sZ, sS, dX, cA, eQ, fP, gq, Pat.bind, Pat.binds, eqE, geE, gtE, leE, ltE, eQ, fP, bU, subE, dM, ixA, ixE, isN, absE, intOf, isTy, attrE, atI_n, atI_0, atI_1, atI_2, atI_3, rY, hi, hj, bu, bK, tx, fL, jB, Int.ofNat_lt] at f ⊢
    exact f
  · have f := fin [.str [112]] (by simp [stpN, canDo, hi, hj, stE, List.filter_cons])
    simp [iD, aD, aY, aM, dO, bY, aR, lOp, ao, lC, lB, lT, bR, lOr, cY, lIf, bA, gD, cM, au, aj, aU, bM, lCB, lBM, lSl, aV, aQ, eE, lIt, bW, dh, fQ, eU, dR, cQ, dB, lLc, jj, jc, aA, bV, gZ, gS, sZ, sS, dX, cA, eQ, fP, gq, Pat.bind, Pat.binds, eqE, geE, gtE, leE, ltE, eQ, fP, bU, subE, dM, ixA, ixE, isN, absE, intOf, isTy, attrE, atI_n, atI_0, atI_1, atI_2, atI_3, rY, hi, hj, bu, bK, tx, fL, jB, Int.ofNat_lt] at f ⊢
    exact f
  · have f := fin [] (by simp [stpN, canDo, hi, hj, stE, List.filter_cons])
    simp [iD, aD, aY, aM, dO, bY, aR, lOp, ao, lC, lB, lT, bR, lOr, cY, lIf, bA, gD, cM, au, aj, aU, bM, lCB, lBM, lSl, aV, aQ, eE, lIt, bW, dh, fQ, eU, dR, cQ, dB, lLc, jj, jc, aA, bV, gZ, gS, sZ, sS, dX, cA, eQ, fP, gq, Pat.bind, Pat.binds, eqE, geE, gtE, leE, ltE, eQ, fP, bU, subE, dM, ixA, ixE, isN, absE, intOf, isTy, attrE, atI_n, atI_0, atI_1, atI_2, atI_3, rY, hi, hj, bu, bK, tx, fL, jB, Int.ofNat_lt] at f ⊢
    exact f
theorem eqE_nilS {n : Bool} {a b : Nat} {ns : List Nat} {h : EH} {P : EK} (e : h[a]? = some (.lst (ns.map stE))) (e2 : h[b]? = some (.lst [])) (p : P (.bl (n ^^ decide (ns = []))) h) : eqE n (.ref a) (.ref b) h P := by
  unfold eqE
  have d1 : ∀ l : List Nat, qI h 59 (l.map stE) (l.map fun c => PyData.str (S [c])) := by
    intro l
    induction l with
    | nil => exact .nil
    | cons x l ih => exact .cons (.str [x]) ih
  refine ⟨.list (ns.map fun c => PyData.str (S [c])), .list [], .lst e (d1 ns), .lst e2 .nil, ?_⟩
  have e3 : PyData.eqv (.list (ns.map fun c => PyData.str (S [c]))) (.list []) = decide (ns = []) := by
    cases ns <;> simp [PyData.eqv, PyData.eqvAll]
  rw [e3]
  exact p
section
variable {w : Wd} {q : Prom} (hq : ∀ i j, q.ok i j = w.p.ok i j)
include hq
end
section
variable {w : Wd} {c : Tab} (hc : ∀ x, cost c x = cost w.c x)
include hc
end
end Y
namespace Y
open PySem PySem.Spec PyProof.Rows L2
mutual
inductive DatB (b : Nat) (h : EH) : Nat → EV → PyData → Prop
  | non {n : Nat} : DatB b h n .non .none
  | bl {n : Nat} (x : Bool) : DatB b h n (.bl x) (.bool x)
  | int {n : Nat} (i : Int) : DatB b h n (.int i) (.int i)
  | str {n : Nat} (s : List Nat) : DatB b h n (.str s) (.str (S s))
  | tup {n : Nat} {xs : List EV} {ds : List PyData} : DatsB b h n xs ds → DatB b h (n + 1) (.tup xs) (.tuple ds)
  | lst {n : Nat} {r : Nat} {xs : List EV} {ds : List PyData} : b < r → h[r]? = some (.lst xs) → DatsB b h n xs ds → DatB b h (n + 1) (.ref r) (.list ds)
inductive DatsB (b : Nat) (h : EH) : Nat → List EV → List PyData → Prop
  | nil {n : Nat} : DatsB b h n [] []
  | cons {n : Nat} {x : EV} {xs : List EV} {d : PyData} {ds : List PyData} : DatB b h n x d → DatsB b h n xs ds → DatsB b h n (x :: xs) (d :: ds)
end
section
variable {b : Nat} {h h' : EH} {n k j : Nat}
end
end Y
namespace Y
open PySem PySem.Spec PyProof.Rows L2
theorem stpN_iff {l r : List Int} {i j c : Nat} : c ∈ stpN l r i j ↔ isStep c ∧ canDo l r c i j = true := by
  unfold stpN isStep
  simp [List.mem_filter]
def allGo (l r : List Int) : List Nat → Nat → Nat → Bool
  | [], _, _ => true
  | c :: cs, i, j => canDo l r c i j && allGo l r cs (mvI i c) (mvJ j c)
def oK (ad : Ad) : LSp := fun evs h Q => ∃ (b most : Nat) (l r : List Int), evs = [.ref b, tx l, tx r, .int most] ∧ bQ h b ∧ most ≤ 1000 ∧
  ∀ (s : List Nat) (h' : EH), aP (is1 b) h h' → bQ h' b → StepC s → s.length ≤ most → allGo l r s 0 0 = true → Q (.str s) h'
abbrev N__law_walk : List Str := ["_law_bag_here", "_law_left", "_law_right", "_law_most", "_law_i", "_law_j", "_law_found", "_law_turn", "_law_some", "_law_step"]
def t__law_walk_2 (ad : Ad) : LS :=
    aM (ao 6)
def t__law_walk_1b_1 (ad : Ad) : LS :=
    aR (lB (lOp (eqE true) (ao 8) (bM (au))))
      (aD (aY (lIf (lB (lOp (eqE false) (aA (aH ad) (aj (ao 0) (aj (lC (.int 2)) (au)))) (lC (.int 0)))) (lOp ixA (ao 8) (lC (.int 0))) (aA (bz ad) (aj (ao 0) (aj (ao 8) (au))))) 9) <|
    lPar3 6 4 5 (aj (lOp bU (ao 6) (ao 9)) (aj (lOp bU (ao 4) (lCB intOf (aj (lOp (eqE true) (ao 9) (lC (.str [112]))) (au)))) (aj (lOp bU (ao 5) (lCB intOf (aj (lOp (eqE true) (ao 9) (lC (.str [100]))) (au)))) (au)))))
      (aQ)
def t__law_walk_1b_0 (ad : Ad) : LS :=
    aD (aY (aA (mF ad) (aj (ao 1) (aj (ao 2) (aj (ao 4) (aj (ao 5) (au)))))) 8) <| t__law_walk_1b_1 ad
def t__law_walk_1 (ad : Ad) : LS :=
    aD (eE (bW (aj (ao 3) (au))) (.nm 7)
      (t__law_walk_1b_0 ad)) <| t__law_walk_2 ad
def t__law_walk_0 (ad : Ad) : LS :=
    aD (fQ (aU (aj (lC (.int 0)) (aj (lC (.int 0)) (aj (lC (.str [])) (au))))) (.tp [.nm 4, .nm 5, .nm 6])) <| t__law_walk_1 ad
def t__law_walk (ad : Ad) : LS :=
    aD (fQ (aU (aj (lC (.int 0)) (aj (lC (.int 0)) (aj (lC (.str [])) (au))))) (.tp [.nm 4, .nm 5, .nm 6])) <|
    aD (eE (bW (aj (ao 3) (au))) (.nm 7)
      (aD (aY (aA (mF ad) (aj (ao 1) (aj (ao 2) (aj (ao 4) (aj (ao 5) (au)))))) 8) <|
    aR (lB (lOp (eqE true) (ao 8) (bM (au))))
      (aD (aY (lIf (lB (lOp (eqE false) (aA (aH ad) (aj (ao 0) (aj (lC (.int 2)) (au)))) (lC (.int 0)))) (lOp ixA (ao 8) (lC (.int 0))) (aA (bz ad) (aj (ao 0) (aj (ao 8) (au))))) 9) <|
    lPar3 6 4 5 (aj (lOp bU (ao 6) (ao 9)) (aj (lOp bU (ao 4) (lCB intOf (aj (lOp (eqE true) (ao 9) (lC (.str [112]))) (au)))) (aj (lOp bU (ao 5) (lCB intOf (aj (lOp (eqE true) (ao 9) (lC (.str [100]))) (au)))) (au)))))
      (aQ))) <|
    aM (ao 6)
theorem len__law_walk (ad : Ad) (evs : List EV) (h : EH) (Q : EK) (q : oK ad evs h Q) : evs.length = ["_law_bag_here", "_law_left", "_law_right", "_law_most"].length := by
  obtain ⟨_, _, _, _, rfl, _⟩ := q; rfl
theorem pure__law_walk (ad : Ad) (evs : List EV) (h : EH) (Q : EK) (q : oK ad evs h Q) : t__law_walk ad (aN Q) (bJ N__law_walk evs) h := by
  obtain ⟨b, most, l, r, rfl, B, hm, q⟩ := q
  show t__law_walk_0 ad (aN Q) [some (.ref b), some (tx l), some (tx r), some (.int most), none, none, none, none, none, none] h
  unfold t__law_walk_0
  rw [aD, fQ]
  simp only [aY, aM, dO, bY, lOp, ao, lC, lB, lT, bR, lOr, cY, lIf, bA, gD, cM, au, aj, aU, bM, lCB, lBM, lSl, aV, aQ, lIt, bW, dh, fQ, eU, dR, cQ, dB, lLc, jj, jc, aA, bV, gZ, gS, sZ, sS, cA, eQ, fP, gq, Pat.bind, Pat.binds]
  refine ⟨by simp [bu], ?_⟩
  unfold t__law_walk_1
  try dsimp only
  rw [aD, eE]
  simp only [aY, aM, dO, bY, lOp, ao, lC, lB, lT, bR, lOr, cY, lIf, bA, gD, cM, au, aj, aU, bM, lCB, lBM, lSl, aV, aQ, lIt, bW, dh, fQ, eU, dR, cQ, dB, lLc, jj, jc, aA, bV, gZ, gS, sZ, sS, cA, eQ, fP]
  refine ⟨⟨by omega, by omega⟩, ?_⟩
  rw [show (most : Int).toNat = most by omega]
  refine loop_nat most (fun k env h' => ∃ (i j : Nat) (s : List Nat) (x7 x8 x9 : Option EV), env = [some (.ref b), some (tx l), some (tx r), some (.int most), some (.int i), some (.int j), some (.str s), x7, x8, x9] ∧ aP (is1 b) h h' ∧ bQ h' b ∧ StepC s ∧ s.length ≤ k ∧ ∀ t, allGo l r (s ++ t) 0 0 = allGo l r t i j) ?_ ?_ _ _ ⟨0, 0, [], none, none, none, rfl, .refl, B, (fun c hc => by cases hc), Nat.le_refl _, fun t => rfl⟩
  · rintro env h' ⟨i, j, s, x7, x8, x9, rfl, k, B', sc, ls, go⟩
    refine ⟨trivial, ?_⟩
    simp only [t__law_walk_2, aY, aM, dO, bY, lOp, ao, lC, lB, lT, bR, lOr, cY, lIf, bA, gD, cM, au, aj, aU, bM, lCB, lBM, lSl, aV, aQ, lIt, bW, dh, fQ, eU, dR, cQ, dB, lLc, jj, jc, aA, bV, gZ, gS, sZ, sS, cA, eQ, fP]
    exact q s _ k B' sc ls (by have := go []; rw [List.append_nil] at this; exact this)
  rintro k env h' kk hk ⟨i, j, s, x7, x8, x9, rfl, k0, B', sc, ls, go⟩ hkk
  refine ⟨trivial, j5 ?_⟩
  simp only [sZ, sS]
  unfold t__law_walk_1b_0
  try dsimp only
  rw [aD, aY]
  simp only [aY, aM, dO, bY, lOp, ao, lC, lB, lT, bR, lOr, cY, lIf, bA, gD, cM, au, aj, aU, bM, lCB, lBM, lSl, aV, aQ, lIt, bW, dh, fQ, eU, dR, cQ, dB, lLc, jj, jc, aA, bV, gZ, gS, sZ, sS, cA, eQ, fP]
  refine ⟨l, r, i, j, rfl, fun r2 h2 k2 l2 e2 => ?_⟩
  have B2 := B'.keep k2
  have hb2 := B2.lt
  have hb0 := B'.lt
  unfold t__law_walk_1b_1
  try dsimp only
  rw [aR]
  simp only [aY, aM, dO, bY, lOp, ao, lC, lB, lT, bR, lOr, cY, lIf, bA, gD, cM, au, aj, aU, bM, lCB, lBM, lSl, aV, aQ, lIt, bW, dh, fQ, eU, dR, cQ, dB, lLc, jj, jc, aA, bV, gZ, gS, sZ, sS, cA, eQ, fP, List.length_nil]
  refine ⟨by simp [bu], eqE_nilS (dW e2 _) bK ?_⟩
  have e4 : (h2 ++ [EO.lst []])[r2]? = some (.lst ((stpN l r i j).map stE)) := dW e2 _
  have B4 := B2.keep (aP.app [EO.lst []])
  have k4 : aP (is1 b) h (h2 ++ [EO.lst []]) := (k0.trans k2.all).trans (aP.app _)
  generalize h2 ++ [EO.lst []] = h4 at e4 B4 k4 ⊢
  have n3 : r2 ≠ b := by omega
  have hst : ∀ c ∈ stpN l r i j, isStep c := fun c hc => (stpN_iff.mp hc).1
  have hlen : (stpN l r i j).length ≤ 3 := by unfold stpN; exact Nat.le_trans (List.length_filter_le _ _) (by simp)
  have hcan : ∀ c ∈ stpN l r i j, canDo l r c i j = true := fun c hc => (stpN_iff.mp hc).2
  generalize hcs : stpN l r i j = cs at e4 hst hcan hlen ⊢
  cases cs with
  | nil =>
    simp only [decide_true, Bool.xor_true, Bool.not_true, Bool.false_eq_true, if_false]
    exact hkk _ _ ⟨i, j, s, _, _, _, rfl, k4, B4, sc, by omega, go⟩
  | cons c cs =>
    simp only [reduceCtorEq, decide_false, Bool.xor_false, if_true]
    rw [aD]
    generalize hK : lPar3 6 4 5 _ = K
    have fin : ∀ (c2 : Nat) (h5 : EH) (x7 x8 : Option EV), c2 ∈ c :: cs → aP (is1 b) h h5 → bQ h5 b → K { nx := kk, rt := Q, bk := t__law_walk_2 ad (aN Q), ct := kk } [some (.ref b), some (tx l), some (tx r), some (.int most), some (.int i), some (.int j), some (.str s), x7, x8, some (stE c2)] h5 := by
      intro c2 h5 x7 x8 hc2 k5 B5
      have sc2 : StepC (s ++ [c2]) := fun x hx => by
        rcases List.mem_append.mp hx with y | y
        · exact sc x y
        · rw [List.mem_singleton] at y; subst y; exact hst _ hc2
      have f := hkk _ _ ⟨mvI i c2, mvJ j c2, s ++ [c2], x7, x8, some (stE c2), rfl, k5, B5, sc2, by simp; omega, fun t => by rw [List.append_assoc, go]; show (canDo l r c2 i j && allGo l r t (mvI i c2) (mvJ j c2)) = _; rw [hcan _ hc2, Bool.true_and]⟩
      have ls : (s ++ [c2]).length ≤ sizeLine := by simp [bu]; omega
      rw [← hK]
      rcases hst _ hc2 with rfl | rfl | rfl <;> simp [lPar3, aD, aY, aM, dO, bY, aR, lOp, ao, lC, lB, lT, bR, lOr, cY, lIf, bA, gD, cM, au, aj, aU, bM, lCB, lBM, lSl, aV, aQ, eE, lIt, bW, dh, fQ, eU, dR, cQ, dB, lLc, jj, jc, aA, bV, gZ, gS, sZ, sS, dX, cA, eQ, fP, gq, Pat.bind, Pat.binds, eqE, geE, gtE, leE, ltE, eQ, fP, bU, subE, dM, ixA, ixE, isN, absE, intOf, isTy, attrE, atI_n, atI_0, atI_1, atI_2, atI_3, rY, stE, mvI, mvJ, ls, bu] at f ls ⊢ <;> first | exact f | exact ⟨by omega, f⟩ | skip
    rw [aY]
    simp only [lIf, lB, lOp, aA, aj, au, ao, lC, gZ, gS, sZ, sS]
    refine ⟨b, 2, rfl, by decide, by decide, B4, fun d h5 d0 d2 k5 B5 => rM ?_⟩
    have e5 := k5.other e4 n3
    simp only [Bool.false_xor, decide_eq_true_eq]
    split
    · refine ia_l e5 ((atI_0 _).trans rfl) ?_
      exact fin c _ _ _ (by simp) (k4.trans k5) B5
    · refine ⟨b, r2, _, rfl, e5, by simp, ?_, n3, B5, fun x h6 hx k6 B6 => ?_⟩
      · rw [List.length_map, bu]; omega
      · obtain ⟨c2, hc2, rfl⟩ := List.mem_map.mp hx
        exact fin c2 _ _ _ hc2 ((k4.trans k5).trans k6) B6
section
variable {ad : Ad} {h0 h h' : EH} {b : Nat} {w : Wd} {X : Bool → Bool} {c : Tab} {s R C : Nat} {T1 T2 : Bool → List Int} {O : Bool → Bool} {hd pr : Nat}
end
theorem ints_dats {h : EH} {n : Nat} : ∀ l : List Int, qI h n (l.map EV.int) (l.map PyData.int)
  | [] => .nil
  | x :: l => .cons (.int x) (ints_dats l)
abbrev LKV := List (Nat × Int)
def lk (l : LKV) (i : Nat) : Option Int := l.lookup i
section
variable {ad : Ad} {h0 h h' : EH} {b : Nat} {w : Wd} {X : Bool → Bool} {c : Tab} {s : Nat} {T1 T2 : Bool → List Int} {O : Bool → Bool} {hd pr : Nat}
end
section
variable {w : Wd} {z : Int}
end
theorem while_ind {c : LTt} {tb : LS} {D : qm} (M : Nat → En → EH → Prop)
    (step : ∀ n env h (kk : En → EH → Prop), M n env h → (∀ k env' h', k < n → M k env' h' → kk env' h') → c env h fun b h1 => if b = true then tb { D with nx := kk, ct := kk, bk := D.nx } env h1 else D.nx env h1) :
    ∀ fuel n env h, n < fuel → M n env h → whileE c tb D fuel env h
  | 0, _, _, _, l, _ => absurd l (Nat.not_lt_zero _)
  | f + 1, n, env, h, l, m => by
    rw [whileE]
    exact step n env h _ m fun k e h' hk mk => while_ind M step f k e h' (by omega) mk
abbrev NM := List (Int × Int)
def nm (l : NM) (x : Int) : Int := (l.lookup x).getD 0
section
variable {f : Int → Int} {A : List Int} {w v : Wd}
end
section
variable {ad : Ad} {h : EH} {s1 s2 : Nat} {w v : Wd} {a b a2 b2 : Bool} {env : En} {i : Nat}
end
section
variable {h h' : EH} {v : EV} {w : Wd} {x y : Bool} {P : EK}
end
theorem snocInd {α : Type} {P : List α → Prop} (nil : P []) (snoc : ∀ xs x, P xs → P (xs ++ [x])) (xs : List α) : P xs := by
  have : ∀ ys : List α, P ys.reverse := by
    intro ys
    induction ys with
    | nil => exact nil
    | cons y ys ih => rw [List.reverse_cons]; exact snoc _ _ ih
  have h := this xs.reverse
  rwa [List.reverse_reverse] at h
inductive Dd where
  | keep (n : Nat) | drop (n : Nat) | put (xs : List Int)
inductive Un where
  | k | d | p (x : Int)
def one : Un → Dd
  | .k => .keep 1
  | .d => .drop 1
  | .p x => .put [x]
theorem loop_on {α : Type} (f : α → EV) {g : EH → Prop} {p : Pat} {tb : LS} {D : qm} (xs : List α) (I : List α → List α → En → EH → Prop)
    (stop : ∀ env h, I xs [] env h → g h ∧ D.nx env h)
    (turn : ∀ a x b env h (k : En → EH → Prop), xs = a ++ x :: b → I a (x :: b) env h → (∀ env' h', I (a ++ [x]) b env' h' → k env' h') → g h ∧ gq h p (f x) env fun env2 => tb { D with nx := k, ct := k, bk := D.nx } env2 h) :
    ∀ env h, I [] xs env h → loopE g p tb D (xs.map f) env h := by
  intro env h i0
  refine loop_ind (fun left env h => ∃ a b, xs = a ++ b ∧ left = b.map f ∧ I a b env h) ?_ ?_ _ _ _ ⟨[], xs, rfl, rfl, i0⟩
  · rintro env h ⟨a, b, e, el, i⟩
    obtain rfl : b = [] := by simpa using el.symm
    rw [List.append_nil] at e
    subst e
    exact stop env h i
  · rintro x left env h k ⟨a, b, e, el, i⟩ hk
    obtain ⟨y, b, rfl⟩ : ∃ c r, b = c :: r := by
      cases b with
      | nil => simp at el
      | cons c r => exact ⟨c, r, rfl⟩
    rw [List.map_cons, List.cons.injEq] at el
    obtain ⟨rfl, rfl⟩ := el
    exact turn a y b env h k e i fun env' h' i' => hk env' h' ⟨_, _, by rw [e]; simp, rfl, i'⟩
theorem lc_keep {α : Type} (f : α → EV) (y : α → Option EV) {g : EH → Prop} {p : Pat} {tt : LTt} {te : LT} {env : En} {P : EK} {h : EH} (xs : List α) (hl : xs.length ≤ 1000000) (hg : ∀ h', aP no1 h h' → g h')
    (step : ∀ x ∈ xs, ∀ h' (ky : EK) (kn : EH → Prop), aP no1 h h' → (∀ v, y x = some v → ∀ h2, aP no1 h' h2 → ky v h2) → (y x = none → ∀ h2, aP no1 h' h2 → kn h2) → gq h' p (f x) env fun env2 => tt env2 h' fun b h3 => if b = true then te env2 h3 ky else kn h3)
    (fin : ∀ h', aP no1 h h' → h'[h.length]? = some (.lst (xs.filterMap y)) → P (.ref h.length) h') : lcE g p tt te h.length env P (xs.map f) (h ++ [.lst []]) := by
  refine lc_ind (fun left acc h' => ∃ a b, xs = a ++ b ∧ left = b.map f ∧ acc = a.filterMap y ∧ aP no1 h h') ?_ ?_ _ _ _ bK ⟨[], xs, rfl, rfl, rfl, aP.app _⟩
  · rintro acc h' ⟨a, b, e, el, rfl, k⟩ ea
    obtain rfl : b = [] := by simpa using el.symm
    rw [List.append_nil] at e
    subst e
    exact ⟨hg _ k, fin _ k ea⟩
  · rintro x left acc h' ky kn ⟨a, b, e, el, rfl, k⟩ ea hy hn
    obtain ⟨z, b, rfl⟩ : ∃ c r, b = c :: r := by
      cases b with
      | nil => simp at el
      | cons c r => exact ⟨c, r, rfl⟩
    rw [List.map_cons, List.cons.injEq] at el
    obtain ⟨rfl, rfl⟩ := el
    refine ⟨hg _ k, step z (by rw [e]; simp) h' ky kn k (fun v hv h2 k2 => ?_) fun hv h2 k2 => ?_⟩
    · refine hy v h2 (k2.at ea) ?_ ⟨a ++ [z], b, by rw [e]; simp, rfl, by simp [hv], (k.trans k2).fresh (Nat.le_refl _)⟩
      have := List.length_filterMap_le y a
      have hx : xs.length = a.length + (b.length + 1) := by rw [e]; simp
      have sz : sizeLine = 16777216 := by decide
      omega
    · exact hn h2 (k2.at ea) ⟨a ++ [z], b, by rw [e]; simp, rfl, by simp [hv], k.trans k2⟩
def ins1 (acc : List Int) (x : Int) : List Int := if x ∈ acc then acc else acc ++ [x]
def nub (ls : List Int) : List Int := ls.foldl ins1 []
def uni (p : Int × Int) (ks : List Int) : Tab := ks.map fun x => (x, p)
def uniW (p : Int × Int) (g : Prom) (l r : List Int) : Wd := ⟨l, r, prTab (uni p (nub (l ++ r))), g⟩
theorem keep_new {h h1 h2 : EH} {r : Nat} (k0 : aP no1 h h1) (k : aP (is1 r) h1 h2) (hr : h.length ≤ r) : aP no1 h h2 := by
  refine ⟨Nat.le_trans k0.1 k.1, fun i o ho _ => k.2 i o (k0.at ho) ?_⟩
  have := jQ ho
  simp [is1]
  omega
def restVR (p : Int × Int) (l r : List Int) (i j : Nat) : Int := ((uniW p .none l r).rest i j).getD 0
def v1 (n m i j : Nat) : List Int := if decide (i = n) && decide (j = m) then [0] else []
def v2 (p : Int × Int) (l r : List Int) (i j : Nat) : List Int := if (decide (i < l.length) && (decide (j < r.length) && decide (l.getD i 0 = r.getD j 0))) = true then [restVR p l r (i + 1) (j + 1)] else []
theorem one_new {ad : Ad} {h : EH} {b : Nat} {xs : List EV} {P : EK} (B : bQ h b) (ne : xs ≠ []) (hl : xs.length ≤ 1000) (p : ∀ x h', x ∈ xs → aP (is1 b) h h' → bQ h' b → P x h') : bz ad [.ref b, .ref h.length] (h ++ [.lst xs]) P :=
  ⟨b, h.length, xs, rfl, bK, ne, by rw [bu]; omega, by have := B.lt; omega, B.keep (aP.app _), fun x h' hx k B' => p x h' hx ((aP.app _).trans k) B'⟩
theorem jX {ad : Ad} {h : EH} {b : Nat} (n : Nat) {m : Int} {P : EK} (B : bQ h b) (e : m = (n : Nat)) (h0 : 0 < n) (h1 : n < 1000000) (p : ∀ (d : Nat) h', d < n → aP (is1 b) h h' → bQ h' b → P (.int d) h') : aH ad [.ref b, .int m] h P := by
  refine ⟨b, m, rfl, by omega, by omega, B, fun d h' d0 d1 k B' => ?_⟩
  obtain ⟨d, rfl⟩ := Int.eq_ofNat_of_zero_le d0
  exact p d h' (by omega) k B'
theorem bB {f : En → EH → Prop} {rt : EK} {c k : En → EH → Prop} {env : En} {h : EH} (p : f env h) : aQ (qm.mk f rt c k) env h := p
def Kn (h : EH) (v : EV) : Prop := (∃ t, ∀ h', aP no1 h h' → tyE v h' = some t) ∧ ∀ xs, v ≠ .ktup xs
theorem Kn.keep {h h' : EH} {v : EV} (z : Kn h v) (k : aP no1 h h') : Kn h' v := ⟨let ⟨t, a⟩ := z.1; ⟨t, fun h2 k2 => a h2 (k.trans k2)⟩, z.2⟩
theorem Kn.ty {h : EH} {v : EV} (z : Kn h v) : ∃ t, tyE v h = some t := let ⟨t, a⟩ := z.1; ⟨t, a h .refl⟩
theorem isi_t {v : EV} {T : String} {h : EH} {P : EK} (z : ∃ t, tyE v h = some t) (hT : T = "int" ∨ T = "bool" ∨ T = "str" ∨ T = "tuple" ∨ T = "dict" ∨ T = "list") (p : ∀ t, tyE v h = some t → P (.bl (isiB t T)) h) : sE [v, .ty T] h P := by
  obtain ⟨t, e⟩ := z
  simp only [sE, e]
  exact ⟨hT, p t e⟩
theorem ty_tup {v : EV} {h : EH} {t : String} (e : tyE v h = some t) (nk : ∀ xs, v ≠ .ktup xs) : (isiB t "tuple" = true ∧ ∃ xs, v = .tup xs) ∨ (isiB t "tuple" = false ∧ ∀ xs, v ≠ .tup xs) := by
  unfold tyE at e
  split at e
  · cases e; exact .inr ⟨rfl, fun _ h => by cases h⟩
  · cases e; exact .inr ⟨rfl, fun _ h => by cases h⟩
  · cases e; exact .inr ⟨rfl, fun _ h => by cases h⟩
  · cases e; exact .inr ⟨rfl, fun _ h => by cases h⟩
  · split at e
    · cases e; exact .inr ⟨rfl, fun _ h => by cases h⟩
    · cases e; exact .inr ⟨rfl, fun _ h => by cases h⟩
    · cases e; exact .inr ⟨rfl, fun _ h => by cases h⟩
    · cases e
  · cases e; exact .inl ⟨rfl, _, rfl⟩
  · exact absurd rfl (nk _)
  · cases e
theorem ty_str {v : EV} {h : EH} {t : String} (e : tyE v h = some t) : (isiB t "str" = true ∧ ∃ s, v = .str s) ∨ (isiB t "str" = false ∧ ∀ s, v ≠ .str s) := by
  unfold tyE at e
  split at e
  · cases e; exact .inr ⟨rfl, fun _ h => by cases h⟩
  · cases e; exact .inr ⟨rfl, fun _ h => by cases h⟩
  · cases e; exact .inr ⟨rfl, fun _ h => by cases h⟩
  · cases e; exact .inl ⟨rfl, _, rfl⟩
  · split at e
    · cases e; exact .inr ⟨rfl, fun _ h => by cases h⟩
    · cases e; exact .inr ⟨rfl, fun _ h => by cases h⟩
    · cases e; exact .inr ⟨rfl, fun _ h => by cases h⟩
    · cases e
  · cases e; exact .inr ⟨rfl, fun _ h => by cases h⟩
  · cases e; exact .inr ⟨rfl, fun _ h => by cases h⟩
  · cases e
theorem lc_keepI (y : EV → Option EV) {g : EH → Prop} {p : Pat} {tt : LTt} {te : LT} {env : En} {P : EK} {h : EH} (xs : List EV) (hl : xs.length ≤ 1000000) (hg : ∀ h', aP no1 h h' → g h')
    (step : ∀ x ∈ xs, ∀ h' (ky : EK) (kn : EH → Prop), aP no1 h h' → (∀ v, y x = some v → ∀ h2, aP no1 h' h2 → ky v h2) → (y x = none → ∀ h2, aP no1 h' h2 → kn h2) → gq h' p x env fun env2 => tt env2 h' fun b h3 => if b = true then te env2 h3 ky else kn h3)
    (fin : ∀ h', aP no1 h h' → h'[h.length]? = some (.lst (xs.filterMap y)) → P (.ref h.length) h') : lcE g p tt te h.length env P xs (h ++ [.lst []]) := by
  have := lc_keep (fun x => x) y (P := P) xs hl hg step fin
  rwa [List.map_id'] at this
theorem ty_int {v : EV} {h : EH} {t : String} (e : tyE v h = some t) : (∃ i, v = .int i ∧ t = "int") ∨ (∃ b, v = .bl b ∧ t = "bool") ∨ (isiB t "int" = false ∧ ∀ lo hi, isBt v lo hi = false) := by
  unfold tyE at e
  split at e
  · cases e; exact .inr (.inr ⟨rfl, fun _ _ => rfl⟩)
  · cases e; exact .inr (.inl ⟨_, rfl, rfl⟩)
  · cases e; exact .inl ⟨_, rfl, rfl⟩
  · cases e; exact .inr (.inr ⟨rfl, fun _ _ => rfl⟩)
  · split at e
    · cases e; exact .inr (.inr ⟨rfl, fun _ _ => rfl⟩)
    · cases e; exact .inr (.inr ⟨rfl, fun _ _ => rfl⟩)
    · cases e; exact .inr (.inr ⟨rfl, fun _ _ => rfl⟩)
    · cases e
  · cases e; exact .inr (.inr ⟨rfl, fun _ _ => rfl⟩)
  · cases e; exact .inr (.inr ⟨rfl, fun _ _ => rfl⟩)
  · cases e
theorem kn_intA {h : EH} (i : Int) : Kn h (.int i) := ⟨⟨"int", fun _ _ => rfl⟩, fun ys e => by cases e⟩
theorem kn_strA {h : EH} (s : List Nat) : Kn h (.str s) := ⟨⟨"str", fun _ _ => rfl⟩, fun ys e => by cases e⟩
theorem kn_tupA {h : EH} (xs : List EV) : Kn h (.tup xs) := ⟨⟨"tuple", fun _ _ => rfl⟩, fun ys e => by cases e⟩
theorem kn_nonA {h : EH} : Kn h .non := ⟨⟨"NoneType", fun _ _ => rfl⟩, fun ys e => by cases e⟩
theorem kn_blA {h : EH} (b : Bool) : Kn h (.bl b) := ⟨⟨"bool", fun _ _ => rfl⟩, fun ys e => by cases e⟩
theorem kn_lstA {h : EH} {r : Nat} {xs : List EV} (e : h[r]? = some (.lst xs)) : Kn h (.ref r) := ⟨⟨"list", fun h' k => by simp only [tyE, k.at e]⟩, fun ys e => by cases e⟩
theorem kn_dicA {h : EH} {r : Nat} {xs : List (EV × EV)} (e : h[r]? = some (.dic xs)) : Kn h (.ref r) := ⟨⟨"dict", fun h' k => by simp only [tyE, k.at e]⟩, fun ys e => by cases e⟩
theorem gtE_i {i j : Int} {h : EH} {P : EK} (p : P (.bl (decide (j < i))) h) : gtE (.int i) (.int j) h P := by
  simp only [gtE]
  first | exact p | exact ⟨_, _, rfl, rfl, p⟩
def datCs (f : EV → Option PyData) : List EV → Option (List PyData)
  | [] => some []
  | x :: xs => match f x with
    | some d => match datCs f xs with
      | some ds => some (d :: ds)
      | none => none
    | none => none
def datL : EV → Option PyData
  | .non => some .none
  | .bl b => some (.bool b)
  | .int i => some (.int i)
  | .str s => some (.str (S s))
  | _ => none
def datC : Nat → EV → Option PyData
  | 0, v => datL v
  | n + 1, v => match v with
    | .tup xs => if xs.length ≤ 1000 then (datCs (datC n) xs).map .tuple else none
    | v => datL v
theorem datL_ok {v : EV} {d : PyData} (e : datL v = some d) : tO v d := by
  cases v <;> first | cases e; exact rfl | cases e
theorem datCs_ok {f : EV → Option PyData} {R : EV → PyData → Prop} (ih : ∀ v d, f v = some d → R v d) : ∀ {xs : List EV} {ds : List PyData}, datCs f xs = some ds → Paired R xs ds
  | [], ds, e => by cases e; exact .nil
  | x :: xs, ds, e => by
    unfold datCs at e
    split at e
    · rename_i d e1
      split at e
      · rename_i ds' e2
        cases e
        exact .cons (ih _ _ e1) (datCs_ok ih e2)
      · cases e
    · cases e
def Txt (t : List Int) : Prop := t.length ≤ 60 ∧ ∀ x ∈ t, 0 ≤ x ∧ x ≤ 1000000000
theorem bind_tp2 {h : EH} {i j : Nat} {x y : EV} {env : En} {P : En → Prop} (q : P ((env.set i (some x)).set j (some y))) : gq h (.tp [.nm i, .nm j]) (.tup [x, y]) env P := q
abbrev wNot : List Nat := [110, 111, 116]
abbrev wAnd : List Nat := [97, 110, 100]
abbrev wOr : List Nat := [111, 114]
abbrev nQ : List Nat := [107, 101, 112, 116]
abbrev jD : List Nat := [97, 108, 111, 110, 101]
abbrev dJ : List Nat := [98, 101, 103, 105, 110, 115]
inductive Say where
  | kept (i j : Nat)
  | alone (k : Bool) (i : Nat)
  | begins (s : List Nat)
  | neg (p : Say)
  | bin (a : Bool) (p q : Say)
deriving DecidableEq
def sdN (k : Bool) : List Nat := if k = true then [114, 105, 103, 104, 116] else [108, 101, 102, 116]
def bnN (a : Bool) : List Nat := if a = true then wAnd else wOr
def Say.e : Say → EV
  | .kept i j => .tup [.str nQ, .int i, .int j]
  | .alone k i => .tup [.str jD, .str (sdN k), .int i]
  | .begins s => .tup [.str dJ, .str s]
  | .neg p => .tup [.str wNot, p.e]
  | .bin a p q => .tup [.str (bnN a), p.e, q.e]
def Say.D : Say → PyData
  | .kept i j => .tuple [.str (S nQ), .int i, .int j]
  | .alone k i => .tuple [.str (S jD), .str (S (sdN k)), .int i]
  | .begins s => .tuple [.str (S dJ), .str (S s)]
  | .neg p => .tuple [.str (S wNot), p.D]
  | .bin a p q => .tuple [.str (S (bnN a)), p.D, q.D]
def Say.isAtom : Say → Bool
  | .neg _ => false
  | .bin _ _ _ => false
  | _ => true
def Say.leaves : Say → List Say
  | .neg p => p.leaves
  | .bin _ p q => p.leaves ++ q.leaves
  | a => [a]
def Say.words : Say → Nat
  | .neg p => p.words + 1
  | .bin _ p q => p.words + q.words + 1
  | _ => 0
def Say.dep : Say → Nat
  | .neg p => p.dep + 1
  | .bin _ p q => max p.dep q.dep + 1
  | _ => 0
def Say.okD (d : Bool) : Say → Bool
  | .begins _ => !d
  | .neg p => p.okD true
  | .bin _ p q => p.okD d && q.okD d
  | _ => true
def Say.Good : Say → Prop
  | .begins s => StepC s ∧ s.length ≤ 1000
  | .neg p => p.Good
  | .bin _ p q => p.Good ∧ q.Good
  | _ => True
def Say.word : Say → List Nat
  | .kept _ _ => nQ
  | .alone _ _ => jD
  | .begins _ => dJ
  | .neg _ => wNot
  | .bin a _ _ => bnN a
def Say.rest : Say → List EV
  | .kept i j => [.int i, .int j]
  | .alone k i => [.str (sdN k), .int i]
  | .begins s => [.str s]
  | .neg p => [p.e]
  | .bin _ p q => [p.e, q.e]
theorem Say.e_eq (a : Say) : a.e = .tup (.str a.word :: a.rest) := by cases a <;> rfl
theorem Say.dep_words (a : Say) : a.dep ≤ a.words := by
  induction a with
  | neg p ih => simp only [Say.dep, Say.words]; omega
  | bin a p q ih1 ih2 => simp only [Say.dep, Say.words]; omega
  | _ => exact Nat.le_refl _
theorem Say.leaves_atom (a : Say) : ∀ b ∈ a.leaves, b.isAtom = true := by
  induction a with
  | neg p ih => exact ih
  | bin a p q ih1 ih2 =>
    intro b hb
    rcases List.mem_append.mp hb with h | h
    · exact ih1 b h
    · exact ih2 b h
  | _ => intro b hb; rw [List.mem_singleton.mp hb]; rfl
theorem Say.leaves_good (a : Say) (g : a.Good) : ∀ b ∈ a.leaves, b.Good := by
  induction a with
  | neg p ih => exact ih g
  | bin a p q ih1 ih2 =>
    intro b hb
    rcases List.mem_append.mp hb with h | h
    · exact ih1 g.1 b h
    · exact ih2 g.2 b h
  | _ => intro b hb; rw [List.mem_singleton.mp hb]; exact g
theorem Say.dat {h : EH} : ∀ (a : Say) (n : Nat), Dat h (n + a.dep + 1) a.e a.D
  | .kept i j, n => .tup (.cons (.str _) (.cons (.int _) (.cons (.int _) .nil)))
  | .alone k i, n => .tup (.cons (.str _) (.cons (.str _) (.cons (.int _) .nil)))
  | .begins s, n => .tup (.cons (.str _) (.cons (.str _) .nil))
  | .neg p, n => by
    show Dat h (n + (p.dep + 1) + 1) _ _
    exact .tup (.cons (.str _) (.cons (by have := Say.dat (h := h) p n; rwa [Nat.add_assoc] at this) .nil))
  | .bin a p q, n => by
    show Dat h (n + (max p.dep q.dep + 1) + 1) _ _
    have h1 := Say.dat (h := h) p (n + (max p.dep q.dep - p.dep))
    have h2 := Say.dat (h := h) q (n + (max p.dep q.dep - q.dep))
    rw [show n + (max p.dep q.dep - p.dep) + p.dep + 1 = n + (max p.dep q.dep + 1) by omega] at h1
    rw [show n + (max p.dep q.dep - q.dep) + q.dep + 1 = n + (max p.dep q.dep + 1) by omega] at h2
    exact .tup (.cons (.str _) (.cons h1 (.cons h2 .nil)))
def Say.isBeg : Say → Bool
  | .begins _ => true
  | _ => false
def rE : EV → Bool
  | .int i => decide (0 ≤ i)
  | _ => false
def jG (ad : Ad) : LSp := fun evs h Q => ∃ v t, evs = [v] ∧ tyE v h = some t ∧ Q (.bl (rE v)) h
abbrev N_is_number : List Str := ["thing"]
def t_is_number (ad : Ad) : LS :=
    aM (bA (aA (mG ad) (aj (ao 0) (au))) (lOp geE (ao 0) (lC (.int 0))))
theorem len_is_number (ad : Ad) (evs : List EV) (h : EH) (Q : EK) (q : jG ad evs h Q) : evs.length = ["thing"].length := by
  obtain ⟨_, _, rfl, _⟩ := q; rfl
theorem geE_i {i j : Int} {h : EH} {P : EK} (p : P (.bl (decide (j ≤ i))) h) : geE (.int i) (.int j) h P := by
  simp only [geE]
  first | exact p | exact ⟨_, _, rfl, rfl, p⟩
theorem wordB (a : Say) : decide (a.word = [98, 101, 103, 105, 110, 115]) = a.isBeg := by
  cases a with
  | bin b p q => cases b <;> rfl
  | _ => rfl
theorem numBV_nat (n : Nat) : rE (.int (n : Int)) = true := by simp [rE]
theorem pure_is_number (ad : Ad) (evs : List EV) (h : EH) (Q : EK) (q : jG ad evs h Q) : t_is_number ad (aN Q) (bJ N_is_number evs) h := by
  obtain ⟨v, t, rfl, e, q⟩ := q
  show t_is_number ad (aN Q) [some v] h
  unfold t_is_number
  simp only [aM, bA, aA, lOp, lC, aj, au, ao, gZ]
  refine ⟨v, t, rfl, e, ?_⟩
  cases v with
  | int i =>
    simp only [isInt, if_true]
    exact geE_i q
  | _ =>
    simp only [isInt, Bool.false_eq_true, if_false]
    exact q
def lE (l : List Say) : List Say := l.foldl (fun acc x => if x ∈ acc then acc else acc ++ [x]) []
def sW (ad : Ad) : LSp := fun evs h Q => ∃ (r : Nat) (l : List Say), evs = [.ref r] ∧ h[r]? = some (.lst (l.map Say.e)) ∧ (∀ a ∈ l, a.isAtom = true ∧ a.Good) ∧ l.length ≤ 1000 ∧ ∀ r2 h', aP no1 h h' → h.length ≤ r2 → h'[r2]? = some (.lst ((lE l).map Say.e)) → Q (.ref r2) h'
abbrev N_different : List Str := ["some", "at", "one"]
def t_different (ad : Ad) : LS :=
    aM (lLc (lEnum (aj (ao 0) (au))) (.tp [.nm 1, .nm 2]) (lB (lOp (inA true) (ao 2) (lSl (ao 0) (aV none) (aV (some (ao 1)))))) (ao 2) [1, 2])
theorem len_different (ad : Ad) (evs : List EV) (h : EH) (Q : EK) (q : sW ad evs h Q) : evs.length = ["some"].length := by
  obtain ⟨_, _, rfl, _⟩ := q; rfl
def qP : Say × Bool → List (Say × Bool)
  | (.neg p, _) => [(p, true)]
  | (.bin _ p q, d) => [(p, d), (q, d)]
  | _ => []
def mO : Say → Nat
  | .neg p => mO p + 1
  | .bin _ p q => mO p + mO q + 1
  | _ => 1
def szs (l : List (Say × Bool)) : Nat := (l.map fun x => mO x.1).sum
def wds (l : List (Say × Bool)) : Nat := (l.map fun x => x.1.words).sum
def lvs (l : List (Say × Bool)) : List Say := l.flatMap fun x => x.1.leaves
theorem eqE_nilG {n : Bool} {a b : Nat} {xs : List EV} {ds : List PyData} {h : EH} {P : EK} (e : h[a]? = some (.lst xs)) (d : qI h 59 xs ds) (hl : xs.length = ds.length) (e2 : h[b]? = some (.lst [])) (p : P (.bl (n ^^ decide (xs = []))) h) : eqE n (.ref a) (.ref b) h P := by
  unfold eqE
  refine ⟨.list ds, .list [], .lst e d, .lst e2 .nil, ?_⟩
  have e3 : PyData.eqv (.list ds) (.list []) = decide (xs = []) := by
    cases xs with
    | nil =>
      cases ds with
      | nil => simp [PyData.eqv, PyData.eqvAll]
      | cons d ds => simp at hl
    | cons x xs =>
      cases ds with
      | nil => simp at hl
      | cons d ds => simp [PyData.eqv, PyData.eqvAll]
  rw [e3]
  exact p
theorem bS (u v : List Nat) : (S u == S v) = decide (u = v) := by
  rw [Bool.eq_iff_iff]
  simp only [beq_iff_eq, decide_eq_true_eq]
  exact S_inj
theorem bI (u v : Int) : (u == v) = decide (u = v) := by rw [Bool.eq_iff_iff]; simp
theorem sdN_inj {a b : Bool} : sdN a = sdN b ↔ a = b := by cases a <;> cases b <;> simp [sdN]
theorem eqv_atom {a b : Say} (ha : a.isAtom = true) (hb : b.isAtom = true) : PyData.eqv a.D b.D = decide (a = b) := by
  cases a with
  | neg p => cases ha
  | bin c p q => cases ha
  | kept i j =>
    cases b with
    | neg p => cases hb
    | bin c p q => cases hb
    | kept k l =>
      simp only [Say.D, PyData.eqv, PyData.eqvAll, bS, bI]
      rw [Bool.eq_iff_iff]
      simp only [Bool.and_eq_true, decide_eq_true_eq, Say.kept.injEq]
      constructor
      · rintro ⟨_, h1, h2, _⟩; exact ⟨by omega, by omega⟩
      · rintro ⟨h1, h2⟩; exact ⟨trivial, by omega, by omega, trivial⟩
    | _ => simp [Say.D, PyData.eqv, PyData.eqvAll, bS, bI]
  | alone k i =>
    cases b with
    | neg p => cases hb
    | bin c p q => cases hb
    | alone m l =>
      simp only [Say.D, PyData.eqv, PyData.eqvAll, bS, bI]
      rw [Bool.eq_iff_iff]
      simp only [Bool.and_eq_true, decide_eq_true_eq, Say.alone.injEq, sdN_inj]
      constructor
      · rintro ⟨_, h1, h2, _⟩; exact ⟨h1, by omega⟩
      · rintro ⟨h1, h2⟩; exact ⟨trivial, h1, by omega, trivial⟩
    | _ => simp [Say.D, PyData.eqv, PyData.eqvAll, bS, bI]
  | begins s =>
    cases b with
    | neg p => cases hb
    | bin c p q => cases hb
    | begins t =>
      simp only [Say.D, PyData.eqv, PyData.eqvAll, bS]
      rw [Bool.eq_iff_iff]
      simp only [Bool.and_eq_true, decide_eq_true_eq, Say.begins.injEq]
      exact ⟨fun h => h.2.1, fun h => ⟨trivial, h, trivial⟩⟩
    | _ => simp [Say.D, PyData.eqv, PyData.eqvAll, bS, bI]
theorem strOk_step {s : List Nat} (h : StepC s) : PyData.strOk (S s) = true := by
  unfold PyData.strOk
  show (s.toArray.all fun x => decide (x < 1114112)) = true
  rw [Array.all_eq_true']
  intro c hc
  have := h c (by simpa using hc)
  rcases this with rfl | rfl | rfl <;> decide
theorem sh_atom {a : Say} (ha : a.isAtom = true) (g : a.Good) : PySem.SeqAt.shaped a.D = true := by
  unfold PySem.SeqAt.shaped
  cases a with
  | neg p => cases ha
  | bin c p q => cases ha
  | kept i j =>
    have h1 : PyData.strOk (S nQ) = true := by decide +kernel
    simp [Say.D, PyData.canLay0, PyData.canLayAll0, PyData.depth, PyData.depthAll, h1]
  | alone k i =>
    have h1 : PyData.strOk (S jD) = true := by decide +kernel
    have h2 : PyData.strOk (S (sdN k)) = true := by cases k <;> decide +kernel
    simp [Say.D, PyData.canLay0, PyData.canLayAll0, PyData.depth, PyData.depthAll, h1, h2]
  | begins s =>
    have h1 : PyData.strOk (S dJ) = true := by decide +kernel
    have h2 := strOk_step g.1
    simp [Say.D, PyData.canLay0, PyData.canLayAll0, PyData.depth, PyData.depthAll, h1, h2]
theorem lay_atoms : ∀ {l : List Say}, (∀ a ∈ l, a.isAtom = true ∧ a.Good) → PyData.canLayAll0 (l.map Say.D) = true ∧ PyData.depthAll (l.map Say.D) ≤ 63
  | [], _ => ⟨rfl, by decide⟩
  | a :: l, h => by
    obtain ⟨h1, h2⟩ := lay_atoms fun b hb => h b (List.mem_cons_of_mem _ hb)
    have h3 := sh_atom (h a (by simp)).1 (h a (by simp)).2
    unfold PySem.SeqAt.shaped at h3
    rw [Bool.and_eq_true] at h3
    have h4 : a.D.depth ≤ 3 := by
      have ha := (h a (by simp)).1
      cases a with
      | neg p => cases ha
      | bin c p q => cases ha
      | _ => simp [Say.D, PyData.depth, PyData.depthAll]
    rw [List.map_cons, PyData.canLayAll0, PyData.depthAll, h1, h3.1]
    exact ⟨rfl, by omega⟩
theorem sh_atoms {l : List Say} (h : ∀ a ∈ l, a.isAtom = true ∧ a.Good) : PySem.SeqAt.shaped (.list (l.map Say.D)) = true := by
  obtain ⟨h1, h2⟩ := lay_atoms h
  unfold PySem.SeqAt.shaped
  rw [Bool.and_eq_true]
  exact ⟨by simp [PyData.canLay0, h1], decide_eq_true (by simp only [PyData.depth]; omega)⟩
theorem any_atom {x : Say} (hx : x.isAtom = true) : ∀ {l : List Say}, (∀ a ∈ l, a.isAtom = true) → ((l.map Say.D).any fun z => PyData.eqv z x.D) = decide (x ∈ l)
  | [], _ => by simp
  | a :: l, h => by
    rw [List.map_cons, List.any_cons, any_atom hx fun b hb => h b (List.mem_cons_of_mem _ hb), eqv_atom (h a (by simp)) hx]
    by_cases c : a = x
    · subst c; simp
    · have : ¬ x = a := fun e => c e.symm
      simp [c, this]
theorem atom_dat {h : EH} {n : Nat} {a : Say} (ha : a.isAtom = true) : Dat h (n + 1) a.e a.D := by
  have e : a.dep = 0 := by cases a <;> first | rfl | cases ha
  have := Say.dat (h := h) a n
  rwa [e, Nat.add_zero] at this
theorem atoms_dats {h : EH} {n : Nat} : ∀ {l : List Say}, (∀ a ∈ l, a.isAtom = true) → qI h (n + 1) (l.map Say.e) (l.map Say.D)
  | [], _ => .nil
  | a :: l, ha => .cons (atom_dat (ha a (by simp))) (atoms_dats fun b hb => ha b (List.mem_cons_of_mem _ hb))
theorem in_atoms {neg : Bool} {h : EH} {r : Nat} {x : Say} {l : List Say} {P : EK} (hx : x.isAtom = true ∧ x.Good) (hl : ∀ a ∈ l, a.isAtom = true ∧ a.Good) (e : h[r]? = some (.lst (l.map Say.e))) (p : P (.bl (neg ^^ decide (x ∈ l))) h) : inA neg x.e (.ref r) h P := by
  have he : x.e = .tup (.str x.word :: x.rest) := x.e_eq
  have key : ∃ d ds, Dat h 60 x.e d ∧ qI h 59 (l.map Say.e) ds ∧ PySem.SeqAt.shaped d = true ∧ PySem.SeqAt.shaped (.list ds) = true ∧ P (.bl (neg ^^ ds.any fun z => PyData.eqv z d)) h :=
    ⟨x.D, l.map Say.D, atom_dat hx.1, atoms_dats fun a ha => (hl a ha).1, sh_atom hx.1 hx.2, sh_atoms hl, by rw [any_atom hx.1 fun a ha => (hl a ha).1]; exact p⟩
  rw [he] at key ⊢
  simp only [inA, e]
  exact .inr key
theorem sX (l : List Say) (x : Say) : lE (l ++ [x]) = if x ∈ lE l then lE l else lE l ++ [x] := by
  unfold lE
  rw [List.foldl_append]; rfl
theorem dedS_mem (l : List Say) : ∀ x, x ∈ lE l ↔ x ∈ l := by
  induction l using snocInd with
  | nil => intro x; rfl
  | snoc l y ih =>
    intro x
    rw [sX]
    split
    · rename_i h
      rw [ih, List.mem_append, List.mem_singleton]
      exact ⟨.inl, fun z => z.elim id fun e => by subst e; exact (ih _).mp h⟩
    · rw [List.mem_append, List.mem_append, ih]
theorem dedS_len (l : List Say) : (lE l).length ≤ l.length := by
  induction l using snocInd with
  | nil => exact Nat.le_refl _
  | snoc l y ih =>
    rw [sX]
    split
    · rw [List.length_append]; omega
    · rw [List.length_append, List.length_append]; simp; omega
instance : Inhabited Say := ⟨.begins []⟩
theorem numE_map {α : Type} [Inhabited α] (f : α → EV) (l : List α) : numE (l.map f) 0 = (List.range l.length).map fun (i : Nat) => EV.tup [.int i, f (l.getD i default)] := by
  refine List.ext_getElem? fun i => ?_
  by_cases hi : i < l.length
  · have h1 : i < (numE (l.map f) 0).length := by rw [numE_len, List.length_map]; exact hi
    rw [List.getElem?_eq_getElem h1]
    obtain ⟨x, e1, e2⟩ := numE_at (List.getElem?_eq_getElem h1)
    rw [e2, List.getElem?_map, List.getElem?_range hi]
    rw [List.getElem?_map, List.getElem?_eq_getElem hi] at e1
    simp at e1
    rw [← e1, Option.map_some, List.getD_eq_getElem?_getD, List.getElem?_eq_getElem hi]
    simp
  · rw [List.getElem?_eq_none (by rw [numE_len, List.length_map]; omega), List.getElem?_eq_none (by simp; omega)]
def newS (l : List Say) (i : Nat) : Option Say := if l.getD i default ∈ l.take i then none else some (l.getD i default)
theorem dedS_new (l : List Say) : lE l = (List.range l.length).filterMap (newS l) := by
  induction l using snocInd with
  | nil => rfl
  | snoc l x ih =>
    rw [sX, List.length_append, List.length_singleton, List.range_succ, List.filterMap_append]
    have e1 : (List.range l.length).filterMap (newS (l ++ [x])) = (List.range l.length).filterMap (newS l) := by
      refine fm_congr1 fun i hi => ?_
      have hi := List.mem_range.mp hi
      unfold newS
      rw [List.take_append_of_le_length (Nat.le_of_lt hi), List.getD_eq_getElem?_getD, List.getElem?_append_left hi, ← List.getD_eq_getElem?_getD]
    have e2 : newS (l ++ [x]) l.length = if x ∈ l then none else some x := by
      unfold newS
      rw [List.take_left' rfl, List.getD_eq_getElem?_getD, List.getElem?_append_right (Nat.le_refl _)]
      simp
    rw [e1, ← ih]
    by_cases c : x ∈ l
    · rw [if_pos ((dedS_mem l x).mpr c)]
      simp [e2, c]
    · rw [if_neg (fun h => c ((dedS_mem l x).mp h))]
      simp [e2, c]
theorem pure_different (ad : Ad) (evs : List EV) (h : EH) (Q : EK) (q : sW ad evs h Q) : t_different ad (aN Q) (bJ N_different evs) h := by
  obtain ⟨r, l, rfl, e, ha, hl, q⟩ := q
  have sz : sizeLine = 16777216 := bu
  show t_different ad (aN Q) [some (.ref r), none, none] h
  unfold t_different
  simp only [aM, lLc, lEnum, aj, au, ao, gZ, gS, notTupE, srcE, e]
  refine ⟨trivial, ?_⟩
  rw [numE_map]
  refine lc_keep (fun (i : Nat) => EV.tup [.int i, Say.e (l.getD i default)]) (fun i => (newS l i).map Say.e) (List.range l.length) (by rw [List.length_range]; omega) (fun h' k => k.at e) (fun i hi h' ky kn k hy hn => ?_) fun h1 k1 e1 => ?_
  · have hi := List.mem_range.mp hi
    refine bind_tp2 ?_
    simp only [sZ, sS, cA]
    simp only [lB, lOp, lSl, aV, ao, gZ, gS, slE, k.at e]
    rw [cut_to, ← List.map_take]
    have hx : l.getD i default ∈ l := by rw [List.getD_eq_getElem?_getD, List.getElem?_eq_getElem hi]; exact List.getElem_mem hi
    refine in_atoms (l := l.take i) (ha _ hx) (fun a hm => ha a (List.mem_of_mem_take hm)) bK ?_
    unfold newS at hy hn
    by_cases c : l.getD i default ∈ l.take i
    · rw [decide_eq_true c]
      simp only [Bool.true_xor, Bool.not_true, Bool.false_eq_true, if_false]
      exact hn (by rw [if_pos c]; rfl) _ (aP.app _)
    · rw [decide_eq_false c]
      simp only [Bool.true_xor, Bool.not_false, if_true]
      exact hy _ (by rw [if_neg c]; rfl) _ (aP.app _)
  · refine q h.length h1 k1 (Nat.le_refl _) ?_
    rw [e1, dedS_new]
    congr 2
    generalize List.range l.length = rs
    induction rs with
    | nil => rfl
    | cons i rs ih =>
      rw [List.filterMap_cons, List.filterMap_cons]
      cases newS l i with
      | none => exact ih
      | some x => exact congrArg (List.cons _) ih
abbrev wLeft : List Nat := [108, 101, 102, 116]
abbrev wRight : List Nat := [114, 105, 103, 104, 116]
def ph : EV → Bool
  | .str s => decide (s = wLeft) || decide (s = wRight)
  | _ => false
def ji (ad : Ad) : LSp := fun evs h Q => ∃ v t, evs = [v] ∧ tyE v h = some t ∧ Q (.bl (ph v)) h
abbrev N_is_side_k11 : List Str := ["thing"]
def pQ (ad : Ad) : LS :=
    aM (bA (lCB sE (aj (ao 0) (aj (lC (.ty "str")) (au)))) (lOp (inA false) (ao 0) (lC (.ktup [.str [108, 101, 102, 116], .str [114, 105, 103, 104, 116]]))))
theorem len_is_side_k11 (ad : Ad) (evs : List EV) (h : EH) (Q : EK) (q : ji ad evs h Q) : evs.length = ["thing"].length := by
  obtain ⟨_, _, rfl, _⟩ := q; rfl
theorem side_no {v : EV} (n : ∀ s, v ≠ .str s) : ph v = false := by
  cases v <;> first | rfl | exact absurd rfl (n _)
theorem scr_no {v : EV} (n : ∀ s, v ≠ .str s) : pY v = false := by
  cases v <;> first | rfl | exact absurd rfl (n _)
theorem in_sides {s : List Nat} {h : EH} {P : EK} (p : P (.bl (ph (.str s))) h) : inA false (.str s) (.tup [.str [108, 101, 102, 116], .str [114, 105, 103, 104, 116]]) h P := by
  refine ⟨rfl, rfl, ?_⟩
  have : inF (.str s) [.str [108, 101, 102, 116], .str [114, 105, 103, 104, 116]] = ph (.str s) := by
    have a : ∀ x y : List Nat, decide (x = y) = decide (y = x) := fun x y => decide_eq_decide.mpr eq_comm
    simp [inF, eqF, ph, a wLeft s, a wRight s]
  rw [this]
  simpa using p
theorem pure_is_side_k11 (ad : Ad) (evs : List EV) (h : EH) (Q : EK) (q : ji ad evs h Q) : pQ ad (aN Q) (bJ N_is_side_k11 evs) h := by
  obtain ⟨v, t, rfl, e, q⟩ := q
  show pQ ad (aN Q) [some v] h
  unfold pQ
  simp only [aM, bA, lCB, lOp, lC, aj, au, ao, gZ]
  refine isi_t ⟨t, e⟩ (by simp) fun t2 e2 => ?_
  rcases ty_str e2 with ⟨e3, s, rfl⟩ | ⟨e3, ns⟩
  · rw [e3]
    simp only [if_true]
    exact in_sides q
  · rw [e3]
    simp only [Bool.false_eq_true, if_false]
    rw [side_no ns] at q
    exact q
def U (F : Nat → Prop) (h : EH) : Nat → EV → PyData → Prop
  | 0, v, d => tO v d
  | n + 1, v, d => tO v d ∨ (∃ xs ds, v = .tup xs ∧ xs.length ≤ 1000 ∧ d = .tuple ds ∧ Paired (U F h n) xs ds) ∨ (∃ r xs ds, v = .ref r ∧ ¬ F r ∧ h[r]? = some (.lst xs) ∧ d = .list ds ∧ Paired (U F h n) xs ds) ∨
    (∃ r kvs ps, v = .ref r ∧ ¬ F r ∧ h[r]? = some (.dic kvs) ∧ d = dicD ps ∧ Paired (fun (p : EV × EV) (q : L2.Key × PyData) => p.1 = keyE q.1 ∧ U F h n p.2 q.2) kvs ps)
theorem mY {α β : Type} {R S : α → β → Prop} (f : ∀ a b, R a b → S a b) : ∀ {xs : List α} {ys : List β}, Paired R xs ys → Paired S xs ys
  | _, _, .nil => .nil
  | _, _, .cons a b => .cons (f _ _ a) (mY f b)
theorem pP {α β : Type} {R : α → β → Prop} : ∀ {xs : List α} {ys : List β}, Paired R xs ys → ∀ x ∈ xs, ∃ y ∈ ys, R x y
  | _, _, .nil, x, hx => by cases hx
  | _, _, .cons a b, x, hx => by
    rcases List.mem_cons.mp hx with rfl | hx
    · exact ⟨_, by simp, a⟩
    · obtain ⟨y, hy, r⟩ := pP b x hx
      exact ⟨y, by simp [hy], r⟩
theorem U.leaf {F : Nat → Prop} {h : EH} {n : Nat} {v : EV} {d : PyData} (l : tO v d) : U F h n v d := by
  cases n with
  | zero => exact l
  | succ n => exact .inl l
theorem U.map {F G : Nat → Prop} {h h' : EH} (hg : ∀ r, G r → F r) (k : ∀ r o, h[r]? = some o → ¬ F r → h'[r]? = some o) : ∀ (n : Nat) {v : EV} {d : PyData}, U F h n v d → U G h' n v d
  | 0, v, d, z => z
  | n + 1, v, d, z => by
    rcases z with z | ⟨xs, ds, rfl, l, rfl, p⟩ | ⟨r, xs, ds, rfl, f, e, rfl, p⟩ | ⟨r, kvs, ps, rfl, f, e, rfl, p⟩
    · exact .inl z
    · exact .inr (.inl ⟨xs, ds, rfl, l, rfl, p |> mY fun _ _ z => U.map hg k n z⟩)
    · exact .inr (.inr (.inl ⟨r, xs, ds, rfl, fun g => f (hg r g), k _ _ e f, rfl, p |> mY fun _ _ z => U.map hg k n z⟩))
    · exact .inr (.inr (.inr ⟨r, kvs, ps, rfl, fun g => f (hg r g), k _ _ e f, rfl, p |> mY fun _ _ z => ⟨z.1, U.map hg k n z.2⟩⟩))
theorem U.keep {F : Nat → Prop} {h h' : EH} {n : Nat} {v : EV} {d : PyData} (z : U F h n v d) (k : aP F h h') : U F h' n v d := U.map (fun _ g => g) k.2 n z
theorem U.up1 {F : Nat → Prop} {h : EH} : ∀ (n : Nat) {v : EV} {d : PyData}, U F h n v d → U F h (n + 1) v d
  | 0, v, d, z => .inl z
  | n + 1, v, d, z => by
    rcases z with z | ⟨xs, ds, rfl, l, rfl, p⟩ | ⟨r, xs, ds, rfl, f, e, rfl, p⟩ | ⟨r, kvs, ps, rfl, f, e, rfl, p⟩
    · exact .inl z
    · exact .inr (.inl ⟨xs, ds, rfl, l, rfl, p |> mY fun _ _ z => U.up1 n z⟩)
    · exact .inr (.inr (.inl ⟨r, xs, ds, rfl, f, e, rfl, p |> mY fun _ _ z => U.up1 n z⟩))
    · exact .inr (.inr (.inr ⟨r, kvs, ps, rfl, f, e, rfl, p |> mY fun _ _ z => ⟨z.1, U.up1 n z.2⟩⟩))
theorem U.le {F : Nat → Prop} {h : EH} {n m : Nat} (l : n ≤ m) {v : EV} {d : PyData} (z : U F h n v d) : U F h m v d := by
  induction l with
  | refl => exact z
  | step _ ih => exact U.up1 _ ih
theorem U.dat {F : Nat → Prop} {h : EH} : ∀ (n : Nat) {v : EV} {d : PyData}, U F h n v d → DatD h n v d
  | 0, v, d, z => z
  | n + 1, v, d, z => by
    rcases z with z | ⟨xs, ds, rfl, l, rfl, p⟩ | ⟨r, xs, ds, rfl, f, e, rfl, p⟩ | ⟨r, kvs, ps, rfl, f, e, rfl, p⟩
    · exact .inl z
    · exact .inr (.inl ⟨xs, ds, .inl rfl, rfl, p |> mY fun _ _ z => U.dat n z⟩)
    · exact .inr (.inr (.inl ⟨r, xs, ds, rfl, e, rfl, p |> mY fun _ _ z => U.dat n z⟩))
    · exact .inr (.inr (.inr ⟨r, kvs, ps, rfl, e, rfl, p |> mY fun _ _ z => ⟨z.1, U.dat n z.2⟩⟩))
theorem leaf_kn {h : EH} {v : EV} {d : PyData} (z : tO v d) : Kn h v := by
  cases v with
  | non => exact kn_nonA
  | bl b => exact kn_blA b
  | int i => exact kn_intA i
  | str s => exact kn_strA s
  | _ => exact z.elim
theorem U.kn {F : Nat → Prop} {h : EH} {n : Nat} {v : EV} {d : PyData} (z : U F h n v d) : Kn h v := by
  cases n with
  | zero => exact leaf_kn z
  | succ n =>
    rcases z with z | ⟨xs, ds, rfl, l, rfl, p⟩ | ⟨r, xs, ds, rfl, f, e, rfl, p⟩ | ⟨r, kvs, ps, rfl, f, e, rfl, p⟩
    · exact leaf_kn z
    · exact kn_tupA _
    · exact kn_lstA e
    · exact kn_dicA e
theorem U.tup {F : Nat → Prop} {h : EH} {n : Nat} {xs : List EV} {d : PyData} (z : U F h n (.tup xs) d) : xs.length ≤ 1000 ∧ ∃ m ds, n = m + 1 ∧ d = .tuple ds ∧ Paired (U F h m) xs ds := by
  cases n with
  | zero => exact False.elim z
  | succ n =>
    rcases z with z | ⟨xs, ds, e, l, rfl, p⟩ | ⟨r, xs, ds, e, _⟩ | ⟨r, kvs, ps, e, _⟩
    · exact False.elim z
    · cases e; exact ⟨l, n, ds, rfl, rfl, p⟩
    · cases e
    · cases e
theorem U.str {F : Nat → Prop} {h : EH} {n : Nat} {s : List Nat} {d : PyData} (z : U F h n (.str s) d) : d = .str (S s) := by
  cases n with
  | zero => exact z
  | succ n =>
    rcases z with z | ⟨xs, ds, e, _⟩ | ⟨r, xs, ds, e, _⟩ | ⟨r, kvs, ps, e, _⟩
    · exact z
    · cases e
    · cases e
    · cases e
def shB (k : Nat) (d : PyData) : Prop := d.showable = true ∧ d.leavesShort 45 = true ∧ d.weight ≤ k
def dY (k : Nat) (ds : List PyData) : Prop := PyData.showableAll ds = true ∧ PyData.leavesShortAll 45 ds = true ∧ PyData.weightAll ds ≤ k
theorem shB.more {k j : Nat} {d : PyData} (z : shB k d) (l : k ≤ j) : shB j d := ⟨z.1, z.2.1, Nat.le_trans z.2.2 l⟩
theorem dY.nil {k : Nat} : dY k [] := ⟨by simp [PyData.showableAll], by simp [PyData.leavesShortAll], by simp [PyData.weightAll]⟩
theorem dY.cons {a b : Nat} {d : PyData} {ds : List PyData} (x : shB a d) (y : dY b ds) : dY (a + 1 + b) (d :: ds) := by
  obtain ⟨x1, x2, x3⟩ := x
  obtain ⟨y1, y2, y3⟩ := y
  refine ⟨by simp only [PyData.showableAll, x1, y1, Bool.and_self], by simp only [PyData.leavesShortAll, x2, y2, Bool.and_self], ?_⟩
  simp only [PyData.weightAll]
  omega
theorem dY.tup {k : Nat} {ds : List PyData} (x : dY k ds) : shB k (.tuple ds) := ⟨by simpa only [PyData.showable] using x.1, by simpa only [PyData.leavesShort] using x.2.1, by simpa only [PyData.weight] using x.2.2⟩
theorem dY.lst {k : Nat} {ds : List PyData} (x : dY k ds) : shB k (.list ds) := ⟨by simpa only [PyData.showable] using x.1, by simpa only [PyData.leavesShort] using x.2.1, by simpa only [PyData.weight] using x.2.2⟩
theorem shB.items {k : Nat} {ds : List PyData} (x : shB k (.tuple ds)) : dY k ds := ⟨by simpa only [PyData.showable] using x.1, by simpa only [PyData.leavesShort] using x.2.1, by simpa only [PyData.weight] using x.2.2⟩
theorem shB.fits {k : Nat} {d : PyData} (x : shB k d) (hk : k ≤ 100000) : d.showable = true ∧ d.shown.length ≤ sizeLine := by
  refine ⟨x.1, ?_⟩
  have := PyData.shown_le 45 (by decide) d x.2.1
  have h2 := x.2.2
  have h3 : (45 + 2) * d.weight ≤ 47 * 100000 := Nat.mul_le_mul_left _ (by omega)
  rw [bu]
  omega
def UV (F : Nat → Prop) (n k : Nat) (h : EH) (v : EV) : Prop := ∃ d, U F h n v d ∧ shB k d
theorem UV.keep {F : Nat → Prop} {n k : Nat} {h h' : EH} {v : EV} (z : UV F n k h v) (kp : aP F h h') : UV F n k h' v := let ⟨d, u, s⟩ := z; ⟨d, u.keep kp, s⟩
theorem UV.mono {F G : Nat → Prop} {n m k j : Nat} {h : EH} {v : EV} (z : UV F n k h v) (hg : ∀ r, G r → F r) (l1 : n ≤ m) (l2 : k ≤ j) : UV G m j h v := let ⟨d, u, s⟩ := z; ⟨d, (U.map hg (fun _ _ e _ => e) n u).le l1, s.more l2⟩
def plB (k : Nat) (v : EV) : Bool := match datC 3 v with
  | some d => d.showable && d.leavesShort 45 && decide (d.weight ≤ k)
  | none => false
theorem datC_u {F : Nat → Prop} {h : EH} : ∀ (n : Nat) {v : EV} {d : PyData}, datC n v = some d → U F h n v d
  | 0, v, d, e => datL_ok e
  | n + 1, v, d, e => by
    unfold datC at e
    split at e
    · rename_i xs
      split at e
      · rename_i l
        cases hd : datCs (datC n) xs with
        | none => rw [hd] at e; cases e
        | some ds =>
          rw [hd] at e
          cases e
          exact .inr (.inl ⟨xs, ds, rfl, l, rfl, datCs_ok (R := U F h n) (fun v d z => datC_u n z) hd⟩)
      · cases e
    · exact U.leaf (datL_ok e)
theorem plB_uv {F : Nat → Prop} {k : Nat} {h : EH} {v : EV} (e : plB k v = true) : UV F 3 k h v := by
  unfold plB at e
  cases hd : datC 3 v with
  | none => rw [hd] at e; cases e
  | some d =>
    rw [hd] at e
    simp only [Bool.and_eq_true, decide_eq_true_eq] at e
    exact ⟨d, datC_u 3 hd, e.1.1, e.1.2, e.2⟩
theorem uv_lst {F : Nat → Prop} {h : EH} {k r : Nat} {xs : List EV} {ds : List PyData} (e : h[r]? = some (.lst xs)) (f : ¬ F r) (hd : datCs (datC 2) xs = some ds) (s : shB k (.list ds)) : UV F 3 k h (.ref r) :=
  ⟨.list ds, .inr (.inr (.inl ⟨r, xs, ds, rfl, f, e, rfl, datCs_ok (R := U F h 2) (fun v d z => datC_u 2 z) hd⟩)), s⟩
theorem uv_dic {F : Nat → Prop} {h : EH} {k r : Nat} {kvs : List (EV × EV)} {ps : List (L2.Key × PyData)} (e : h[r]? = some (.dic kvs)) (f : ¬ F r) (p : Paired (fun (p : EV × EV) (q : L2.Key × PyData) => p.1 = keyE q.1 ∧ U F h 2 p.2 q.2) kvs ps) (s : shB k (dicD ps)) : UV F 3 k h (.ref r) :=
  ⟨dicD ps, .inr (.inr (.inr ⟨r, kvs, ps, rfl, f, e, rfl, p⟩)), s⟩
theorem sh_int {i : Int} (hi : i.natAbs < 10 ^ 12) : shB 41 (.int i) := by
  have z : DS [] 5 41 (.int i) (.int i) := DS.int hi (Nat.le_refl _)
  refine ⟨z.2.1, ?_, z.2.2.2⟩
  have := z.2.2.1
  simp only [PyData.leavesShort, decide_eq_true_eq] at this ⊢
  omega
theorem sh_str {s : List Nat} (hs : ∀ c ∈ s, c < 16 ^ 8) : shB s.length (.str (S s)) := by
  have z : DS [] 5 s.length (.str s) (.str (S s)) := DS.str hs (Nat.le_refl _)
  refine ⟨z.2.1, ?_, z.2.2.2⟩
  have := z.2.2.1
  simp only [PyData.leavesShort] at this ⊢
  exact this
theorem eqN_n {i j : Nat} {h : EH} {P : EK} (p : P (.bl (false ^^ decide (i = j))) h) : eqE false (.int (i : Nat)) (.int (j : Nat)) h P := by
  refine rM ?_
  have : decide (((i : Nat) : Int) = (j : Nat)) = decide (i = j) := decide_eq_decide.mpr (by omega)
  rw [this]
  exact p
theorem prd_take {α β : Type} {R : α → β → Prop} : ∀ (n : Nat) {xs : List α} {ys : List β}, Paired R xs ys → Paired R (xs.take n) (ys.take n)
  | 0, _, _, _ => .nil
  | _ + 1, _, _, .nil => .nil
  | n + 1, _, _, .cons a b => .cons a (prd_take n b)
theorem prd_drop {α β : Type} {R : α → β → Prop} : ∀ (n : Nat) {xs : List α} {ys : List β}, Paired R xs ys → Paired R (xs.drop n) (ys.drop n)
  | 0, _, _, p => p
  | _ + 1, _, _, .nil => .nil
  | n + 1, _, _, .cons a b => prd_drop n b
theorem prd_app {α β : Type} {R : α → β → Prop} : ∀ {xs us : List α} {ys vs : List β}, Paired R xs ys → Paired R us vs → Paired R (xs ++ us) (ys ++ vs)
  | _, _, _, _, .nil, q => q
  | _, _, _, _, .cons a b, q => .cons a (prd_app b q)
theorem dY.app : ∀ {xs ys : List PyData} {a b : Nat}, dY a xs → dY b ys → dY (a + b) (xs ++ ys)
  | [], ys, a, b, x, y => ⟨y.1, y.2.1, by have := y.2.2; simp only [List.nil_append]; omega⟩
  | z :: xs, ys, a, b, x, y => by
    obtain ⟨x1, x2, x3⟩ := x
    simp only [PyData.showableAll, PyData.leavesShortAll, PyData.weightAll, Bool.and_eq_true] at x1 x2 x3
    obtain ⟨i1, i2, i3⟩ := dY.app (xs := xs) (a := PyData.weightAll xs) ⟨x1.2, x2.2, Nat.le_refl _⟩ y
    refine ⟨?_, ?_, ?_⟩
    · simp only [List.cons_append, PyData.showableAll, x1.1, i1, Bool.and_self]
    · simp only [List.cons_append, PyData.leavesShortAll, x2.1, i2, Bool.and_self]
    · simp only [List.cons_append, PyData.weightAll]; omega
theorem dY.split : ∀ {xs ys : List PyData} {k : Nat}, dY k (xs ++ ys) → ∃ a b, a + b ≤ k ∧ dY a xs ∧ dY b ys
  | [], ys, k, x => ⟨0, k, by omega, .nil, x⟩
  | z :: xs, ys, k, x => by
    obtain ⟨x1, x2, x3⟩ := x
    simp only [List.cons_append, PyData.showableAll, PyData.leavesShortAll, PyData.weightAll, Bool.and_eq_true] at x1 x2 x3
    obtain ⟨a, b, l, p, q⟩ := dY.split (xs := xs) (ys := ys) (k := PyData.weightAll (xs ++ ys)) ⟨x1.2, x2.2, Nat.le_refl _⟩
    exact ⟨z.weight + 1 + a, b, by omega, dY.cons ⟨x1.1, x2.1, Nat.le_refl _⟩ p, q⟩
def UVs (F : Nat → Prop) (m k : Nat) (h : EH) (xs : List EV) : Prop := ∃ ds, Paired (U F h m) xs ds ∧ dY k ds
theorem UVs.keep {F : Nat → Prop} {n k : Nat} {h h' : EH} {v : List EV} (z : UVs F n k h v) (kp : aP F h h') : UVs F n k h' v := let ⟨d, u, s⟩ := z; ⟨d, mY (fun _ _ u => u.keep kp) u, s⟩
theorem UVs.split {F : Nat → Prop} {n k : Nat} {h : EH} {xs : List EV} (z : UVs F n k h xs) (i : Nat) : ∃ a b, a + b ≤ k ∧ UVs F n a h (xs.take i) ∧ UVs F n b h (xs.drop i) := by
  obtain ⟨ds, p, s⟩ := z
  rw [← List.take_append_drop i ds] at s
  obtain ⟨a, b, l, s1, s2⟩ := s.split
  exact ⟨a, b, l, ⟨_, prd_take i p, s1⟩, ⟨_, prd_drop i p, s2⟩⟩
theorem UVs.uncons {F : Nat → Prop} {n k : Nat} {h : EH} {x : EV} {xs : List EV} (z : UVs F n k h (x :: xs)) : ∃ a b, a + 1 + b ≤ k ∧ UV F n a h x ∧ UVs F n b h xs := by
  obtain ⟨ds, p, s⟩ := z
  cases p with
  | cons a b =>
    obtain ⟨x1, x2, x3⟩ := s
    simp only [PyData.showableAll, PyData.leavesShortAll, PyData.weightAll, Bool.and_eq_true] at x1 x2 x3
    exact ⟨_, _, x3, ⟨_, a, x1.1, x2.1, Nat.le_refl _⟩, ⟨_, b, x1.2, x2.2, Nat.le_refl _⟩⟩
theorem UVs.one {F : Nat → Prop} {n k : Nat} {h : EH} {x : EV} (z : UV F n k h x) : UVs F n (k + 1) h [x] := by
  obtain ⟨d, u, s⟩ := z
  exact ⟨[d], .cons u .nil, dY.cons s (.nil (k := 0))⟩
theorem UVs.app {F : Nat → Prop} {n a b : Nat} {h : EH} {xs ys : List EV} (z : UVs F n a h xs) (w : UVs F n b h ys) : UVs F n (a + b) h (xs ++ ys) := by
  obtain ⟨d, u, s⟩ := z
  obtain ⟨e, v, t⟩ := w
  exact ⟨d ++ e, prd_app u v, s.app t⟩
theorem UVs.tup {F : Nat → Prop} {n k j : Nat} {h : EH} {xs : List EV} (z : UVs F n k h xs) (hl : xs.length ≤ 1000) (l : k ≤ j) : UV F (n + 1) j h (.tup xs) := by
  obtain ⟨d, u, s⟩ := z
  exact ⟨.tuple d, .inr (.inl ⟨xs, d, rfl, hl, rfl, u⟩), s.tup.more l⟩
theorem UVs.lst {F : Nat → Prop} {n k j r : Nat} {h : EH} {xs : List EV} (z : UVs F n k h xs) (f : ¬ F r) (e : h[r]? = some (.lst xs)) (l : k ≤ j) : UV F (n + 1) j h (.ref r) := by
  obtain ⟨d, u, s⟩ := z
  exact ⟨.list d, .inr (.inr (.inl ⟨r, xs, d, rfl, f, e, rfl, u⟩)), s.lst.more l⟩
theorem UV.items {F : Nat → Prop} {n k : Nat} {h : EH} {xs : List EV} (z : UV F n k h (.tup xs)) : ∃ m, n = m + 1 ∧ UVs F m k h xs := by
  obtain ⟨d, u, s⟩ := z
  obtain ⟨_, m, ds, rfl, rfl, p⟩ := u.tup
  exact ⟨m, rfl, ds, p, s.items⟩
theorem aP.of1 {F : Nat → Prop} {b : Nat} {h h' : EH} (k : aP (is1 b) h h') (f : F b) : aP F h h' := ⟨k.1, fun r o e n => k.2 r o e fun z => n (by rw [show r = b from z]; exact f)⟩
def Dp0 (h : EH) (v : EV) : Prop := Kn h v ∧ (∀ s, v = .str s → s.length ≤ 1000 ∧ ∀ c ∈ s, c < 1114112) ∧ ∀ i, v = .int i → i ≤ 10 ^ 60
def Dp : Nat → EH → EV → Prop
  | 0, h, v => Dp0 h v
  | n + 1, h, v => Dp0 h v ∧ ∀ xs, v = .tup xs → xs.length ≤ 1000 ∧ ∀ x ∈ xs, Dp n h x
theorem Dp.z : ∀ {n : Nat} {h : EH} {v : EV}, Dp n h v → Dp0 h v
  | 0, _, _, z => z
  | _ + 1, _, _, z => z.1
theorem Dp.keep {h h' : EH} (k : aP no1 h h') : ∀ {n : Nat} {v : EV}, Dp n h v → Dp n h' v
  | 0, _, z => ⟨z.1.keep k, z.2⟩
  | _ + 1, _, z => ⟨⟨z.1.1.keep k, z.1.2⟩, fun xs e => ⟨(z.2 xs e).1, fun x hx => Dp.keep k ((z.2 xs e).2 x hx)⟩⟩
theorem Dp.le1 : ∀ {n : Nat} {h : EH} {v : EV}, Dp (n + 1) h v → Dp n h v
  | 0, _, _, z => z.1
  | _ + 1, _, _, z => ⟨z.1, fun xs e => ⟨(z.2 xs e).1, fun x hx => Dp.le1 ((z.2 xs e).2 x hx)⟩⟩
theorem Dp.le {n m : Nat} (l : n ≤ m) {h : EH} {v : EV} (z : Dp m h v) : Dp n h v := by
  induction l with
  | refl => exact z
  | step _ ih => exact ih z.le1
def hasW : EV → Bool
  | .tup (.str _ :: _) => true
  | _ => false
def nO : EV → Bool
  | .tup [.str w, x] => decide (w = dJ) && pY x
  | .tup [.str w, x, y] => !decide (w = dJ) && rE y && (decide (w = nQ) && rE x || decide (w = jD) && ph x)
  | _ => false
def joinB : EV → Bool
  | .tup [.str w, _] => decide (w = wNot)
  | .tup [.str w, _, _] => decide (w = wAnd) || decide (w = wOr)
  | _ => false
def gU (ad : Ad) : LSp := fun evs h Q => ∃ v, evs = [v] ∧ Dp 1 h v ∧ Q (.bl (hasW v)) h
def kZ (ad : Ad) : LSp := fun evs h Q => ∃ v, evs = [v] ∧ Dp 1 h v ∧ ∀ h', aP no1 h h' → Q (.bl (nO v)) h'
def jh (ad : Ad) : LSp := fun evs h Q => ∃ v, evs = [v] ∧ Dp 1 h v ∧ Q (.bl (joinB v)) h
abbrev N_has_word_k39 : List Str := ["thing"]
def oh (ad : Ad) : LS :=
    aM (bA (lCB sE (aj (ao 0) (aj (lC (.ty "tuple")) (au)))) (bA (lOp gtE (lCB dM (aj (ao 0) (au))) (lC (.int 0))) (lCB sE (aj (lOp ixA (ao 0) (lC (.int 0))) (aj (lC (.ty "str")) (au))))))
abbrev N_is_atom_k39 : List Str := ["thing"]
def t_is_atom_k39_3 (ad : Ad) : LS :=
    aM (gD (bA (lOp (eqE false) (lOp ixA (ao 0) (lC (.int 0))) (lC (.str [107, 101, 112, 116]))) (aA (jG ad) (aj (lOp ixA (ao 0) (lC (.int 1))) (au)))) (bA (lOp (eqE false) (lOp ixA (ao 0) (lC (.int 0))) (lC (.str [97, 108, 111, 110, 101]))) (aA (ji ad) (aj (lOp ixA (ao 0) (lC (.int 1))) (au)))))
def t_is_atom_k39_2 (ad : Ad) : LS :=
    aD (aR (lOr (lB (lOp (eqE true) (lCB dM (aj (ao 0) (au))) (lC (.int 3)))) (cY (lT (aA (jG ad) (aj (lOp ixA (ao 0) (lC (.int 2))) (au))))))
      (aM (lC (.bl false)))
      (aQ)) <| t_is_atom_k39_3 ad
def t_is_atom_k39_1 (ad : Ad) : LS :=
    aD (aR (lB (lOp (eqE false) (lOp ixA (ao 0) (lC (.int 0))) (lC (.str [98, 101, 103, 105, 110, 115]))))
      (aM (bA (lOp (eqE false) (lCB dM (aj (ao 0) (au))) (lC (.int 2))) (aA (oN ad) (aj (lOp ixA (ao 0) (lC (.int 1))) (au)))))
      (aQ)) <| t_is_atom_k39_2 ad
def t_is_atom_k39_0 (ad : Ad) : LS :=
    aD (aR (cY (lT (aA (gU ad) (aj (ao 0) (au)))))
      (aM (lC (.bl false)))
      (aQ)) <| t_is_atom_k39_1 ad
def t_is_atom_k39 (ad : Ad) : LS :=
    aD (aR (cY (lT (aA (gU ad) (aj (ao 0) (au)))))
      (aM (lC (.bl false)))
      (aQ)) <|
    aD (aR (lB (lOp (eqE false) (lOp ixA (ao 0) (lC (.int 0))) (lC (.str [98, 101, 103, 105, 110, 115]))))
      (aM (bA (lOp (eqE false) (lCB dM (aj (ao 0) (au))) (lC (.int 2))) (aA (oN ad) (aj (lOp ixA (ao 0) (lC (.int 1))) (au)))))
      (aQ)) <|
    aD (aR (lOr (lB (lOp (eqE true) (lCB dM (aj (ao 0) (au))) (lC (.int 3)))) (cY (lT (aA (jG ad) (aj (lOp ixA (ao 0) (lC (.int 2))) (au))))))
      (aM (lC (.bl false)))
      (aQ)) <|
    aM (gD (bA (lOp (eqE false) (lOp ixA (ao 0) (lC (.int 0))) (lC (.str [107, 101, 112, 116]))) (aA (jG ad) (aj (lOp ixA (ao 0) (lC (.int 1))) (au)))) (bA (lOp (eqE false) (lOp ixA (ao 0) (lC (.int 0))) (lC (.str [97, 108, 111, 110, 101]))) (aA (ji ad) (aj (lOp ixA (ao 0) (lC (.int 1))) (au)))))
abbrev N_is_joined_k39 : List Str := ["thing"]
def mX (ad : Ad) : LS :=
    aM (bA (aA (gU ad) (aj (ao 0) (au))) (lOp (inTA false) (aU (aj (lOp ixA (ao 0) (lC (.int 0))) (aj (lCB dM (aj (ao 0) (au))) (au)))) (lC (.ktup [.ktup [.str [110, 111, 116], .int 2], .ktup [.str [97, 110, 100], .int 3], .ktup [.str [111, 114], .int 3]]))))
theorem len_has_word_k39 (ad : Ad) (evs : List EV) (h : EH) (Q : EK) (q : gU ad evs h Q) : evs.length = ["thing"].length := by
  obtain ⟨_, rfl, _⟩ := q; rfl
theorem len_is_atom_k39 (ad : Ad) (evs : List EV) (h : EH) (Q : EK) (q : kZ ad evs h Q) : evs.length = ["thing"].length := by
  obtain ⟨_, rfl, _⟩ := q; rfl
theorem len_is_joined_k39 (ad : Ad) (evs : List EV) (h : EH) (Q : EK) (q : jh ad evs h Q) : evs.length = ["thing"].length := by
  obtain ⟨_, rfl, _⟩ := q; rfl
theorem hasW_no {v : EV} (n : ∀ s, v ≠ .tup s) : hasW v = false := by
  cases v <;> first | rfl | exact absurd rfl (n _)
theorem hasW_is {v : EV} (n : hasW v = true) : ∃ w r, v = .tup (.str w :: r) := by
  unfold hasW at n
  split at n
  · exact ⟨_, _, rfl⟩
  · cases n
theorem atomB_no {v : EV} (n : hasW v = false) : nO v = false := by
  unfold nO
  split
  · cases n
  · cases n
  · rfl
theorem joinB_no {v : EV} (n : hasW v = false) : joinB v = false := by
  unfold joinB
  split
  · cases n
  · cases n
  · rfl
theorem pure_has_word_k39 (ad : Ad) (evs : List EV) (h : EH) (Q : EK) (q : gU ad evs h Q) : oh ad (aN Q) (bJ N_has_word_k39 evs) h := by
  obtain ⟨v, rfl, dp, q⟩ := q
  show oh ad (aN Q) [some v] h
  unfold oh
  simp only [aM, bA, lCB, lOp, lC, aj, au, ao, gZ]
  refine isi_t dp.1.1.ty (by simp) fun t2 e2 => ?_
  rcases ty_tup e2 dp.1.1.2 with ⟨e3, xs, rfl⟩ | ⟨e3, ns⟩
  · rw [e3]
    simp only [if_true, dM]
    obtain ⟨hl, hx⟩ := dp.2 xs rfl
    refine gtE_i ?_
    cases xs with
    | nil =>
      rw [decide_eq_false (by simp)]
      simp only [Bool.false_eq_true, if_false]
      exact q
    | cons w r =>
      rw [decide_eq_true (by simp)]
      simp only [if_true]
      refine jE (x := w) at0 (isi_t (hx w (by simp)).1.ty (by simp) fun t3 e4 => ?_)
      rcases ty_str e4 with ⟨e5, s, rfl⟩ | ⟨e5, ns⟩
      · rw [e5]
        exact q
      · rw [e5]
        have : hasW (.tup (w :: r)) = false := by cases w <;> first | rfl | exact absurd rfl (ns _)
        rw [this] at q
        exact q
  · rw [e3]
    simp only [Bool.false_eq_true, if_false]
    rw [hasW_no ns] at q
    exact q
theorem pure_is_joined_k39 (ad : Ad) (evs : List EV) (h : EH) (Q : EK) (q : jh ad evs h Q) : mX ad (aN Q) (bJ N_is_joined_k39 evs) h := by
  obtain ⟨v, rfl, dp, q⟩ := q
  show mX ad (aN Q) [some v] h
  unfold mX
  simp only [aM, bA, aA, lOp, lCB, aU, lC, aj, au, ao, gZ]
  refine ⟨v, rfl, dp, ?_⟩
  cases hh : hasW v with
  | false =>
    simp only [Bool.false_eq_true, if_false]
    rw [joinB_no hh] at q
    exact q
  | true =>
    simp only [if_true]
    obtain ⟨w, r, rfl⟩ := hasW_is hh
    obtain ⟨hl, hx⟩ := dp.2 _ rfl
    obtain ⟨wl, wc⟩ := (hx (.str w) (by simp)).2.1 w rfl
    refine jE (x := .str w) at0 ?_
    simp only [dM]
    refine ⟨by simp [bu], ?_⟩
    refine ⟨.tuple [.str (S w), .int ((EV.str w :: r).length : Nat)], [.tuple [.str (S wNot), .int 2], .tuple [.str (S wAnd), .int 3], .tuple [.str (S wOr), .int 3]], .tup (.cons (.str _) (.cons (.int _) .nil)),
      .ktup (.cons (.ktup (.cons (.str _) (.cons (.int _) .nil))) (.cons (.ktup (.cons (.str _) (.cons (.int _) .nil))) (.cons (.ktup (.cons (.str _) (.cons (.int _) .nil))) .nil))), ?_, ?_, ?_⟩
    · unfold PySem.SeqAt.shaped
      have key : PyData.strOk (S w) = true := by
        unfold PyData.strOk
        show (w.toArray.all fun x => decide (x < 1114112)) = true
        rw [Array.all_eq_true']
        intro c hc
        exact decide_eq_true (wc c (by simpa using hc))
      simp [PyData.canLay0, PyData.canLayAll0, PyData.depth, PyData.depthAll]
      exact key
    · decide +kernel
    · have J : ∀ (w : List Nat) (n : Int), (([.tuple [.str (S wNot), .int 2], .tuple [.str (S wAnd), .int 3], .tuple [.str (S wOr), .int 3]] : List PyData).any fun z => PyData.eqv z (.tuple [.str (S w), .int n])) = (decide (wNot = w ∧ 2 = n) || (decide (wAnd = w ∧ 3 = n) || decide (wOr = w ∧ 3 = n))) := by
        intro w n
        simp only [List.any_cons, List.any_nil, PyData.eqv, PyData.eqvAll, bS, bI, Bool.and_true, Bool.or_false, Bool.decide_and]
      rw [J]
      have : (decide (wNot = w ∧ (2 : Int) = ((EV.str w :: r).length : Nat)) || (decide (wAnd = w ∧ (3 : Int) = ((EV.str w :: r).length : Nat)) || decide (wOr = w ∧ (3 : Int) = ((EV.str w :: r).length : Nat)))) = joinB (.tup (.str w :: r)) := by
        have sw : ∀ a : List Nat, decide (a = w) = decide (w = a) := fun a => decide_eq_decide.mpr eq_comm
        match r with
        | [] => simp [joinB]
        | [x] => simp [joinB, sw]
        | [x, y] => simp [joinB, sw]
        | x :: y :: z :: r =>
          have n2 : ¬ (2 : Int) = ((EV.str w :: x :: y :: z :: r).length : Nat) := by simp only [List.length_cons]; omega
          have n3 : ¬ (3 : Int) = ((EV.str w :: x :: y :: z :: r).length : Nat) := by simp only [List.length_cons]; omega
          rw [decide_eq_false (fun e => n2 e.2), decide_eq_false (fun e => n3 e.2), decide_eq_false (fun e => n3 e.2)]
          rfl
      rw [this]
      simpa using q
theorem pure_is_atom_k39 (ad : Ad) (evs : List EV) (h : EH) (Q : EK) (q : kZ ad evs h Q) : t_is_atom_k39 ad (aN Q) (bJ N_is_atom_k39 evs) h := by
  obtain ⟨v, rfl, dp, q⟩ := q
  show t_is_atom_k39_0 ad (aN Q) [some v] h
  unfold t_is_atom_k39_0
  rw [aD, aR]
  simp only [cY, lT, aA, aj, au, ao, gZ]
  refine ⟨v, rfl, dp, ?_⟩
  cases hh : hasW v with
  | false =>
    simp only [dX, Bool.not_false, if_true, aM, lC]
    rw [atomB_no hh] at q
    exact q h .refl
  | true =>
    simp only [dX, Bool.not_true, Bool.false_eq_true, if_false]
    try refine bB ?_
    obtain ⟨w, r, rfl⟩ := hasW_is hh
    obtain ⟨hl, hx⟩ := dp.2 _ rfl
    unfold t_is_atom_k39_1
    rw [aD, aR]
    simp only [lB, lOp, lC, ao, gZ]
    refine jE (x := .str w) at0 (eq_s ?_)
    rw [Bool.false_xor]
    by_cases cb : w = dJ
    · subst cb
      rw [decide_eq_true rfl]
      simp only [if_true, aM, bA, lOp, lCB, aA, lC, aj, au, ao, gZ, dM]
      match r, hx, q with
      | [x], hx, q =>
        refine rM ?_
        rw [decide_eq_true (by rfl)]
        simp only [Bool.false_xor, if_true]
        obtain ⟨kx, sx, _⟩ := hx x (by simp)
        obtain ⟨t, et⟩ := kx.ty
        refine jE (x := x) at1 ⟨x, rfl, by rw [et]; rfl, fun s e => by have := (sx s e).1; omega, fun h' k' => ?_⟩
        have : nO (.tup [.str dJ, x]) = pY x := by simp [nO]
        rw [← this]
        exact q h' k'
      | [], hx, q =>
        refine rM ?_
        exact q h .refl
      | [x, y], hx, q =>
        refine rM ?_
        have : nO (.tup [.str dJ, x, y]) = false := by simp [nO]
        rw [this] at q
        exact q h .refl
      | x :: y :: z :: r, hx, q =>
        refine rM ?_
        rw [decide_eq_false (by simp only [List.length_cons]; omega)]
        simp only [Bool.false_xor, Bool.false_eq_true, if_false]
        exact q h .refl
    · rw [decide_eq_false cb]
      simp only [Bool.false_eq_true, if_false]
      try refine bB ?_
      unfold t_is_atom_k39_2
      try dsimp only
      rw [aD, aR]
      simp only [lOr, lB, cY, lT, lOp, lCB, aA, lC, aj, au, ao, gZ, dM]
      match r, hx, q with
      | [x, y], hx, q =>
        refine rM ?_
        rw [decide_eq_true (by rfl)]
        simp only [Bool.xor_true, Bool.not_true, Bool.false_eq_true, if_false]
        obtain ⟨ky, sy, _⟩ := hx y (by simp)
        obtain ⟨ty, ety⟩ := ky.ty
        obtain ⟨kx, sx, _⟩ := hx x (by simp)
        obtain ⟨tx, etx⟩ := kx.ty
        refine jE (x := y) at2 ⟨y, ty, rfl, ety, ?_⟩
        have ea : nO (.tup [.str w, x, y]) = (rE y && (decide (w = nQ) && rE x || decide (w = jD) && ph x)) := by simp [nO, cb]
        rw [ea] at q
        cases hy : rE y with
        | false =>
          simp only [dX, Bool.not_false, if_true, aM, lC]
          rw [hy] at q
          exact q h .refl
        | true =>
          simp only [dX, Bool.not_true, Bool.false_eq_true, if_false]
          try refine bB ?_
          rw [hy, Bool.true_and] at q
          unfold t_is_atom_k39_3
          simp only [aM, gD, bA, lOp, aA, lC, aj, au, ao, gZ]
          refine jE (x := .str w) at0 (eq_s ?_)
          rw [Bool.false_xor]
          have second : (decide (w = nQ) && rE x) = false → bA (lOp (eqE false) (lOp ixA (ao 0) (lC (.int 0))) (lC (.str [97, 108, 111, 110, 101]))) (aA (ji ad) (aj (lOp ixA (ao 0) (lC (.int 1))) (au))) [some (.tup [.str w, x, y])] h Q := by
            intro e
            simp only [bA, lOp, aA, lC, aj, au, ao, gZ]
            rw [e, Bool.false_or] at q
            refine jE (x := .str w) at0 (eq_s ?_)
            rw [Bool.false_xor]
            by_cases ca : w = jD
            · rw [decide_eq_true ca]
              rw [decide_eq_true ca, Bool.true_and] at q
              simp only [dX, if_true]
              exact jE (x := x) at1 ⟨x, tx, rfl, etx, q h .refl⟩
            · rw [decide_eq_false ca]
              rw [decide_eq_false ca, Bool.false_and] at q
              simp only [dX, Bool.false_eq_true, if_false]
              exact q h .refl
          by_cases ck : w = nQ
          · rw [decide_eq_true ck]
            simp only [if_true]
            refine jE (x := x) at1 ⟨x, tx, rfl, etx, ?_⟩
            cases hxn : rE x with
            | true =>
              simp only [if_true]
              rw [decide_eq_true ck, hxn] at q
              exact q h .refl
            | false =>
              simp only [Bool.false_eq_true, if_false]
              exact second (by rw [hxn, Bool.and_false])
          · rw [decide_eq_false ck]
            simp only [Bool.false_eq_true, if_false]
            exact second (by rw [decide_eq_false ck, Bool.false_and])
      | [], hx, q =>
        refine rM ?_
        exact q h .refl
      | [x], hx, q =>
        refine rM ?_
        have : nO (.tup [.str w, x]) = false := by simp [nO, cb]
        rw [this] at q
        exact q h .refl
      | x :: y :: z :: r, hx, q =>
        refine rM ?_
        rw [decide_eq_false (by simp only [List.length_cons]; omega)]
        simp only [Bool.xor_false, if_true, aM, lC]
        exact q h .refl
def begB : EV → Bool
  | .tup (.str w :: _) => decide (w = dJ)
  | _ => false
def lW : EV → Bool → List (EV × Bool)
  | .tup (.str w :: xs), d => xs.map fun x => (x, d || decide (w = wNot))
  | _, _ => []
def goA : Nat → List (EV × Bool) → List EV → Nat → Option (List EV)
  | _, [], dn, _ => some dn
  | 0, _ :: _, _, _ => none
  | n + 1, (v, d) :: t, dn, w =>
    if nO v = true then (if (d && begB v) = true then none else if 4 < dn.length + 1 then none else goA n t (dn ++ [v]) w)
    else if joinB v = true then (if 8 < w + 1 then none else goA n (lW v d ++ t) dn (w + 1))
    else none
def peV (x : EV × Bool) : EV := .tup [x.1, .bl x.2]
def atsV (v : EV) : Option (List EV) := goA 13 [(v, false)] [] 0
def jT (ad : Ad) : LSp := fun evs h Q => ∃ v, evs = [v] ∧ Dp 12 h v ∧ (atsV v = none → ∀ h', aP no1 h h' → Q .non h') ∧ ∀ l r h', atsV v = some l → aP no1 h h' → h.length ≤ r → h'[r]? = some (.lst l) → Q (.ref r) h'
def fG (ad : Ad) : LSp := fun evs h Q => ∃ v, evs = [v] ∧ Dp 12 h v ∧ ∀ h', aP no1 h h' → Q (.bl (atsV v).isSome) h'
abbrev N_atoms_of_k39 : List Str := ["thing", "waiting", "found", "words", "one", "is_denied", "part"]
def lN (ad : Ad) : LS :=
    aM (ao 2)
def t_atoms_of_k39_1 (ad : Ad) : LS :=
    aD (lWhile (lB (lOp neL0 (ao 1) (bM (au))))
      (aD (fQ (lBM "list" popE0 (ao 1) (au)) (.tp [.nm 4, .nm 5])) <|
    aD (aR (lT (aA (kZ ad) (aj (ao 4) (au))))
      (aD (bY (lBM "list" fL (ao 2) (aj (ao 4) (au)))) <|
    aR (bR (lT (ao 5)) (lB (lOp (eqE false) (lOp ixA (ao 4) (lC (.int 0))) (lC (.str [98, 101, 103, 105, 110, 115])))))
      (aM (lC .non))
      (aQ))
      (aR (lT (aA (jh ad) (aj (ao 4) (au))))
      (aD (lAug (fun i j => i + j) 3 (lC (.int 1))) <|
    bY (lBM "list" rZ (ao 1) (aj (lLc (lIt (lRev1 (ao 4))) (.nm 6) (rY) (aU (aj (ao 6) (aj (gD (ao 5) (lOp (eqE false) (lOp ixA (ao 4) (lC (.int 0))) (lC (.str [110, 111, 116])))) (au)))) [6]) (au))))
      (aM (lC .non)))) <|
    aR (lOr (lB (lOp gtE (lCB dM (aj (ao 2) (au))) (lC (.int 4)))) (lB (lOp gtE (ao 3) (lC (.int 8)))))
      (aM (lC .non))
      (aQ))) <| lN ad
def t_atoms_of_k39_0 (ad : Ad) : LS :=
    aD (lPar3 1 2 3 (aj (bM (aj (aU (aj (ao 0) (aj (lC (.bl false)) (au)))) (au))) (aj (bM (au)) (aj (lC (.int 0)) (au))))) <| t_atoms_of_k39_1 ad
def t_atoms_of_k39 (ad : Ad) : LS :=
    aD (lPar3 1 2 3 (aj (bM (aj (aU (aj (ao 0) (aj (lC (.bl false)) (au)))) (au))) (aj (bM (au)) (aj (lC (.int 0)) (au))))) <|
    aD (lWhile (lB (lOp neL0 (ao 1) (bM (au))))
      (aD (fQ (lBM "list" popE0 (ao 1) (au)) (.tp [.nm 4, .nm 5])) <|
    aD (aR (lT (aA (kZ ad) (aj (ao 4) (au))))
      (aD (bY (lBM "list" fL (ao 2) (aj (ao 4) (au)))) <|
    aR (bR (lT (ao 5)) (lB (lOp (eqE false) (lOp ixA (ao 4) (lC (.int 0))) (lC (.str [98, 101, 103, 105, 110, 115])))))
      (aM (lC .non))
      (aQ))
      (aR (lT (aA (jh ad) (aj (ao 4) (au))))
      (aD (lAug (fun i j => i + j) 3 (lC (.int 1))) <|
    bY (lBM "list" rZ (ao 1) (aj (lLc (lIt (lRev1 (ao 4))) (.nm 6) (rY) (aU (aj (ao 6) (aj (gD (ao 5) (lOp (eqE false) (lOp ixA (ao 4) (lC (.int 0))) (lC (.str [110, 111, 116])))) (au)))) [6]) (au))))
      (aM (lC .non)))) <|
    aR (lOr (lB (lOp gtE (lCB dM (aj (ao 2) (au))) (lC (.int 4)))) (lB (lOp gtE (ao 3) (lC (.int 8)))))
      (aM (lC .non))
      (aQ))) <|
    aM (ao 2)
abbrev N_is_saying_k39 : List Str := ["thing"]
def mV (ad : Ad) : LS :=
    aM (lOp (isN true) (aA (jT ad) (aj (ao 0) (au))) (lC .non))
theorem len_atoms_of_k39 (ad : Ad) (evs : List EV) (h : EH) (Q : EK) (q : jT ad evs h Q) : evs.length = ["thing"].length := by
  obtain ⟨_, rfl, _⟩ := q; rfl
theorem len_is_saying_k39 (ad : Ad) (evs : List EV) (h : EH) (Q : EK) (q : fG ad evs h Q) : evs.length = ["thing"].length := by
  obtain ⟨_, rfl, _⟩ := q; rfl
theorem pure_is_saying_k39 (ad : Ad) (evs : List EV) (h : EH) (Q : EK) (q : fG ad evs h Q) : mV ad (aN Q) (bJ N_is_saying_k39 evs) h := by
  obtain ⟨v, rfl, dp, q⟩ := q
  show mV ad (aN Q) [some v] h
  unfold mV
  simp only [aM, lOp, aA, lC, aj, au, ao, gZ]
  refine ⟨v, rfl, dp, fun e h' k => ?_, fun l r h' e k lr er => ?_⟩
  · have := q h' k
    rw [e] at this
    exact this
  · have := q h' k
    rw [e] at this
    exact this
theorem joinB_is {v : EV} (e : joinB v = true) : ∃ w xs, v = .tup (.str w :: xs) ∧ xs ≠ [] ∧ xs.length ≤ 2 := by
  unfold joinB at e
  split at e
  · exact ⟨_, _, rfl, by simp, by simp⟩
  · exact ⟨_, _, rfl, by simp, by simp⟩
  · cases e
theorem atomB_is {v : EV} (e : nO v = true) : ∃ w xs, v = .tup (.str w :: xs) := by
  unfold nO at e
  split at e
  · exact ⟨_, _, rfl⟩
  · exact ⟨_, _, rfl⟩
  · cases e
theorem pure_atoms_of_k39 (ad : Ad) (evs : List EV) (h : EH) (Q : EK) (q : jT ad evs h Q) : t_atoms_of_k39 ad (aN Q) (bJ N_atoms_of_k39 evs) h := by
  obtain ⟨v0, rfl, dp, qn, qs⟩ := q
  have sz : sizeLine = 16777216 := bu
  show t_atoms_of_k39_0 ad (aN Q) [some v0, none, none, none, none, none, none] h
  unfold t_atoms_of_k39_0
  rw [aD, lPar3]
  simp only [bM, aU, aj, au, lC, ao, gZ]
  refine ⟨by simp [bu], by simp [bu], by simp [bu], ?_⟩
  obtain ⟨aw, haw⟩ : ∃ aw, aw = h.length := ⟨_, rfl⟩
  obtain ⟨af, haf⟩ : ∃ af, af = (h ++ [EO.lst [EV.tup [v0, .bl false]]]).length := ⟨_, rfl⟩
  have e1 : (h ++ [EO.lst [EV.tup [v0, .bl false]]] ++ [EO.lst []])[aw]? = some (.lst (([(v0, false)] : List (EV × Bool)).reverse.map peV)) := by rw [haw]; exact dW bK _
  have e2 : (h ++ [EO.lst [EV.tup [v0, .bl false]]] ++ [EO.lst []])[af]? = some (.lst []) := by rw [haf]; exact bK
  have k1 : aP no1 h (h ++ [EO.lst [EV.tup [v0, .bl false]]] ++ [EO.lst []]) := (aP.app _).trans (aP.app _)
  rw [← haw, ← haf]
  have ne : aw ≠ af := by rw [haw, haf]; simp
  have lw : h.length ≤ aw := by omega
  have lf : h.length ≤ af := by rw [haf]; simp
  generalize h ++ [EO.lst [EV.tup [v0, .bl false]]] ++ [EO.lst []] = h1 at e1 e2 k1 ⊢
  clear haw haf
  try simp only [sZ, sS]
  unfold t_atoms_of_k39_1
  try dsimp only
  rw [aD, lWhile]
  refine ⟨13, while_ind (fun n env h' => ∃ (todo : List (EV × Bool)) (dn : List EV) (w : Nat) (x4 x5 x6 : Option EV), env = [some v0, some (.ref aw), some (.ref af), some (.int w), x4, x5, x6] ∧ n = (4 - dn.length) + (8 - w) ∧ dn.length ≤ 4 ∧ w ≤ 8 ∧ h'[aw]? = some (.lst (todo.reverse.map peV)) ∧ h'[af]? = some (.lst dn) ∧ aP no1 h h' ∧
    goA (n + 1) todo dn w = atsV v0 ∧ todo.length + 2 * (8 - w) ≤ 20 ∧ ∀ x ∈ todo, Dp (3 + (8 - w)) h x.1) ?_ _ _ _ _ (Nat.lt_succ_self 12) ⟨[(v0, false)], [], 0, none, none, none, rfl, rfl, by simp, by omega, e1, e2, k1, rfl, by simp, ?_⟩⟩
  rotate_left
  · intro x hx
    rw [List.mem_singleton.mp hx]
    exact dp.le (by decide)
  rintro n env h2 kk ⟨todo, dn, w, x4, x5, x6, rfl, en, ld, lw8, ew, ef, k2, hg, hlen, ht⟩ hk
  simp only [lB, lOp, bM, au, ao, gZ, gS]
  refine ⟨by simp [bu], ?_⟩
  have k2' : aP no1 h (h2 ++ [EO.lst []]) := k2.trans (aP.app _)
  have ew' := dW ew [EO.lst []]
  have ef' := dW ef [EO.lst []]
  have en' : (h2 ++ [EO.lst []])[h2.length]? = some (.lst []) := bK
  generalize h2.length = rn at en' ⊢
  generalize h2 ++ [EO.lst []] = h3 at k2' ew' ef' en' ⊢
  clear ew ef k2
  cases todo with
  | nil =>
    refine .inr (eqE_nilG (xs := []) (ds := []) ew' .nil rfl en' ?_)
    rw [decide_eq_true (by rfl)]
    simp only [Bool.true_xor, Bool.not_true, Bool.false_eq_true, if_false]
    unfold lN
    simp only [aM, ao, gZ, gS]
    rw [goA] at hg
    exact qs dn af h3 hg.symm k2' lf ef'
  | cons x t =>
    refine .inl ⟨aw, rn, _, rfl, rfl, ew', en', by simp, ?_⟩
    simp only [if_true]
    obtain ⟨s, d⟩ := x
    have ds : Dp (3 + (8 - w)) h s := ht (s, d) (by simp)
    have ht' : ∀ x ∈ t, Dp (3 + (8 - w)) h x.1 := fun x hx => ht x (List.mem_cons_of_mem _ hx)
    simp only [List.length_cons] at hlen
    rw [aD, fQ]
    simp only [lBM, ao, au, gZ, gS, isTy, ew', popE0, jB]
    refine ⟨trivial, peV (s, d), ?_, ?_⟩
    · rw [List.reverse_cons, List.map_append, List.length_append, List.map_singleton, List.length_singleton]
      rw [List.getElem?_append_right (by omega)]
      simp
    have eDrop : (((s, d) :: t).reverse.map peV).dropLast = t.reverse.map peV := by
      rw [List.reverse_cons, List.map_append, List.map_singleton, List.dropLast_concat]
    rw [eDrop]
    have ew2 : (h3.set aw (.lst (t.reverse.map peV)))[aw]? = some (.lst (t.reverse.map peV)) := oG ew'
    have ef2 : (h3.set aw (.lst (t.reverse.map peV)))[af]? = some (.lst dn) := mZ ef' (Ne.symm ne)
    have k3 : aP no1 h (h3.set aw (.lst (t.reverse.map peV))) := k2'.fresh lw
    generalize h3.set aw (.lst (t.reverse.map peV)) = h4 at ew2 ef2 k3 ⊢
    clear ew' ef' k2' eDrop en'
    unfold peV
    simp only [gq, Pat.bind, Pat.binds, sZ, sS]
    rw [goA] at hg
    have fin : ∀ (todo2 : List (EV × Bool)) (dn2 : List EV) (w2 : Nat) (y6 : Option EV) (h5 : EH), (dn2.length + w2 = dn.length + w + 1) → dn.length ≤ dn2.length → w ≤ w2 → h5[aw]? = some (.lst (todo2.reverse.map peV)) → h5[af]? = some (.lst dn2) → aP no1 h h5 → (4 < dn2.length → atsV v0 = none) → (8 < w2 → atsV v0 = none) → (dn2.length ≤ 4 → w2 ≤ 8 → goA n todo2 dn2 w2 = atsV v0 ∧ todo2.length + 2 * (8 - w2) ≤ 20 ∧ ∀ x ∈ todo2, Dp (3 + (8 - w2)) h x.1) →
        aR (lOr (lB (lOp gtE (lCB dM (aj (ao 2) (au))) (lC (.int 4)))) (lB (lOp gtE (ao 3) (lC (.int 8))))) (aM (lC .non)) (aQ) { nx := kk, rt := Q, bk := lN ad (aN Q), ct := kk } [some v0, some (.ref aw), some (.ref af), some (.int w2), some s, some (.bl d), y6] h5 := by
      intro todo2 dn2 w2 y6 h5 lt l1 l2 f1 f2 f3 f4 f5 f6
      rw [aR]
      simp only [lOr, lB, lOp, lCB, lC, aj, au, ao, gZ, gS, dM, f2]
      refine gtE_i ?_
      by_cases c4 : 4 < dn2.length
      · rw [decide_eq_true (by omega)]
        simp only [if_true, aM, lC]
        exact qn (f4 c4) h5 f3
      rw [decide_eq_false (by omega)]
      simp only [Bool.false_eq_true, if_false]
      refine gtE_i ?_
      by_cases c8 : 8 < w2
      · rw [decide_eq_true (by omega)]
        simp only [if_true, aM, lC]
        exact qn (f5 c8) h5 f3
      rw [decide_eq_false (by omega)]
      simp only [Bool.false_eq_true, if_false, aQ]
      obtain ⟨g1, g2, g3⟩ := f6 (by omega) (by omega)
      have en2 : n = (4 - dn2.length) + (8 - w2) + 1 := by omega
      refine hk ((4 - dn2.length) + (8 - w2)) _ _ (by omega) ⟨todo2, dn2, w2, _, _, _, rfl, rfl, by omega, by omega, f1, f2, f3, ?_, g2, g3⟩
      rw [← en2]
      exact g1
    rw [aD, aR]
    simp only [lT, aA, aj, au, ao, gZ, gS]
    refine ⟨s, rfl, (ds.keep k3).le (by omega), fun h5 k5 => ?_⟩
    have ew3 := k5.at ew2
    have ef3 := k5.at ef2
    have k35 := k3.trans k5
    cases ha : nO s with
    | true =>
      rw [if_pos ha] at hg
      obtain ⟨sw, sr, es⟩ := atomB_is ha
      simp only [dX, if_true]
      rw [aD, bY]
      simp only [lBM, ao, aj, au, gZ, gS, isTy, ef3, fL, jB]
      refine ⟨trivial, by omega, ?_⟩
      have f1 : (h5.set af (.lst (dn ++ [s])))[aw]? = some (.lst (t.reverse.map peV)) := mZ ew3 ne
      have f2 : (h5.set af (.lst (dn ++ [s])))[af]? = some (.lst (dn ++ [s])) := oG ef3
      have f3 : aP no1 h (h5.set af (.lst (dn ++ [s]))) := k35.fresh lf
      generalize h5.set af (.lst (dn ++ [s])) = h6 at f1 f2 f3 ⊢
      rw [aR]
      simp only [bR, lT, lB, lOp, lC, ao, gZ, gS]
      have go : (d && begB s) = false → aR (lOr (lB (lOp gtE (lCB dM (aj (ao 2) (au))) (lC (.int 4)))) (lB (lOp gtE (ao 3) (lC (.int 8))))) (aM (lC .non)) (aQ) { nx := kk, rt := Q, bk := lN ad (aN Q), ct := kk } [some v0, some (.ref aw), some (.ref af), some (.int w), some s, some (.bl d), x6] h6 := by
        intro c
        rw [if_neg (by rw [c]; decide)] at hg
        refine fin t (dn ++ [s]) w _ h6 (by rw [List.length_append]; simp only [List.length_singleton]; omega) (by rw [List.length_append]; omega) (Nat.le_refl _) f1 f2 f3 (fun c4 => ?_) (fun c8 => by omega) fun l4 _ => ?_
        · rw [List.length_append] at c4
          simp only [List.length_singleton] at c4
          rw [if_pos c4] at hg
          exact hg.symm
        · rw [List.length_append] at l4
          simp only [List.length_singleton] at l4
          rw [if_neg (by omega)] at hg
          exact ⟨hg, by omega, ht'⟩
      cases d with
      | false =>
        simp only [dX, Bool.false_eq_true, if_false, aQ]
        exact go rfl
      | true =>
        simp only [dX, if_true]
        subst es
        refine jE (x := .str sw) at0 (eq_s ?_)
        rw [Bool.false_xor]
        by_cases cb : sw = dJ
        · rw [decide_eq_true cb]
          simp only [if_true, aM, lC]
          rw [if_pos (by simp [begB, cb])] at hg
          exact qn hg.symm h6 f3
        · rw [decide_eq_false cb]
          simp only [Bool.false_eq_true, if_false, aQ]
          exact go (by simp [begB, cb])
    | false =>
      rw [if_neg (by rw [ha]; decide)] at hg
      simp only [dX, Bool.false_eq_true, if_false]
      rw [aR]
      simp only [lT, aA, aj, au, ao, gZ, gS]
      refine ⟨s, rfl, (ds.keep k35).le (by omega), ?_⟩
      cases hj : joinB s with
      | false =>
        rw [if_neg (by rw [hj]; decide)] at hg
        simp only [dX, Bool.false_eq_true, if_false, aM, lC]
        exact qn hg.symm h5 k35
      | true =>
        rw [if_pos hj] at hg
        simp only [dX, if_true]
        obtain ⟨sw, xs, rfl, xn, xl⟩ := joinB_is hj
        rw [aD]
        simp only [lAug, lC, gZ, gS, sZ, sS]
        rw [bY]
        simp only [lBM, ao, aj, au, gZ, gS, isTy, ew3]
        refine ⟨trivial, ?_⟩
        simp only [lLc, lIt, lRev1, ao, gZ, gS]
        refine ⟨by simp, ?_⟩
        rw [List.drop_one, List.tail_cons]
        refine lc_keepI (fun x => some (.tup [x, .bl (d || decide (sw = wNot))])) xs.reverse (by rw [List.length_reverse]; omega) (fun _ _ => trivial) (fun x hx h6 ky kn k6 hy hn => ?_) fun h6 k6 e6 => ?_
        · refine j5 ?_
          simp only [sZ, sS, rY, if_true, cA, aU, gD, lOp, lC, aj, au, ao, gZ, gS, dX]
          cases d with
          | true =>
            simp only [if_true]
            exact ⟨by simp [bu], hy _ rfl h6 .refl⟩
          | false =>
            simp only [Bool.false_eq_true, if_false]
            refine jE (x := .str sw) at0 (eq_s ⟨by simp [bu], ?_⟩)
            exact hy _ (by simp) h6 .refl
        · have em : (xs.reverse.filterMap fun x => some (EV.tup [x, .bl (d || decide (sw = wNot))])) = (lW (.tup (.str sw :: xs)) d).reverse.map peV := by
            rw [List.filterMap_eq_map']
            simp [lW, peV, List.map_reverse]
          rw [em] at e6
          have ew6 := k6.at ew3
          have ef6 := k6.at ef3
          have pl : (lW (.tup (.str sw :: xs)) d).length = xs.length := by simp [lW]
          simp only [rZ, jB, ew6, e6]
          refine ⟨by simp only [List.length_map, List.length_reverse, pl]; omega, ?_⟩
          have et : t.reverse.map peV ++ (lW (.tup (.str sw :: xs)) d).reverse.map peV = ((lW (.tup (.str sw :: xs)) d ++ t).reverse).map peV := by
            rw [List.reverse_append, List.map_append]
          rw [et]
          refine fin (lW (.tup (.str sw :: xs)) d ++ t) dn (w + 1) x6 (h6.set aw (.lst (((lW (.tup (.str sw :: xs)) d ++ t).reverse).map peV))) (by omega) (Nat.le_refl _) (by omega) (oG ew6) (mZ ef6 (Ne.symm ne)) ((k35.trans k6).fresh lw) (fun c4 => by omega) (fun c8 => ?_) fun _ l8 => ?_
          · rw [if_pos c8] at hg
            exact hg.symm
          · rw [if_neg (by omega)] at hg
            refine ⟨hg, by rw [List.length_append, pl]; omega, fun x hx => ?_⟩
            have e8 : 3 + (8 - w) = (3 + (8 - (w + 1))) + 1 := by omega
            rcases List.mem_append.mp hx with hx | hx
            · obtain ⟨y, hy, rfl⟩ := List.mem_map.mp hx
              rw [e8] at ds
              exact ((ds.2 _ rfl).2 y (by simp [hy]))
            · exact (ht' x hx).le (by omega)
def numW (v : EV) : Bool := isBt v 0 (10 ^ 60)
def cntB : Option (Nat × Nat) → Option (Nat × Nat) → Option (Nat × Nat)
  | some a, some b => some (a.1 + b.1, a.2 + b.2 + 1)
  | _, _ => none
def cntN : Option (Nat × Nat) → Option (Nat × Nat)
  | some a => some (a.1, a.2 + 1)
  | none => none
def cntE : Option (Nat × Nat) → EV
  | some a => .tup [.int (a.1 : Nat), .int (a.2 : Nat)]
  | none => .non
def jm : Nat → EV → Bool → Option (Nat × Nat)
  | n + 1, .tup [w, x, y], ins =>
    if mH w nQ = true then (if (numW x && numW y) = true then some (1, 0) else none)
    else if mH w jD = true then (if (ph x && numW y) = true then some (1, 0) else none)
    else if (mH w wAnd || mH w wOr) = true then cntB (jm n x ins) (jm n y ins) else none
  | n + 1, .tup [w, x], ins =>
    if mH w dJ = true then (if (!ins && pY x) = true then some (1, 0) else none)
    else if mH w wNot = true then cntN (jm n x true) else none
  | _, _, _ => none
def cP (ad : Ad) : LSp := fun evs h Q => ∃ v t lo hi, evs = [v, .int lo, .int hi] ∧ tyE v h = some t ∧ Q (.bl (isBt v lo hi)) h
def bL (ad : Ad) : Nat → LSp
  | 0 => fun _ _ _ => False
  | dd + 1 => fun evs h Q => ∃ (v : EV) (ins : Bool) (F : Nat → Prop) (n : Nat) (d : PyData), evs = [v, .bl ins] ∧ n ≤ dd ∧ U F h n v d ∧ d.weight ≤ 100000 ∧ ∀ h', aP no1 h h' → Q (cntE (jm n v ins)) h'
def tH (ad : Ad) : LSp := bL ad 40
def cntOk : Option (Nat × Nat) → Bool
  | some a => decide (a.1 ≤ 4) && decide (a.2 ≤ 8)
  | none => false
def iI (ad : Ad) : LSp := fun evs h Q => ∃ (v : EV) (F : Nat → Prop) (n : Nat) (d : PyData), evs = [v] ∧ n ≤ 39 ∧ U F h n v d ∧ d.weight ≤ 100000 ∧ ∀ h', aP no1 h h' → Q (.bl (cntOk (jm n v false))) h'
abbrev N__law_is_whole : List Str := ["_law_thing_here", "_law_low", "_law_top"]
def mU (ad : Ad) : LS :=
    aM (bA (lCB sE (aj (ao 0) (aj (lC (.ty "int")) (au)))) (bA (cM (lCB sE (aj (ao 0) (aj (lC (.ty "bool")) (au))))) (bV leE leE (ao 1) (ao 0) (ao 2))))
abbrev N__law_counts : List Str := ["_law_thing_here", "_law_inside", "_law_word", "_law_size", "_law_good", "_law_found", "_law_one_here", "_law_other"]
def jN (ad : Ad) (me : LSp) : LS :=
    aM (lC .non)
def jR (ad : Ad) (me : LSp) : LS :=
    aD (aR (bR (lOr (lB (lOp eqS (ao 2) (lC (.str [97, 110, 100])))) (lB (lOp eqS (ao 2) (lC (.str [111, 114]))))) (lB (lOp (eqE false) (ao 3) (lC (.int 3)))))
      (aD (eU 6 7 (aj (aA me (aj (lOp ixA (ao 0) (lC (.int 1))) (aj (ao 1) (au)))) (aj (aA me (aj (lOp ixA (ao 0) (lC (.int 2))) (aj (ao 1) (au)))) (au)))) <|
    aM (lIf (lOr (lB (lOp (isN false) (ao 6) (lC .non))) (lB (lOp (isN false) (ao 7) (lC .non)))) (lC .non) (aU (aj (lOp bU (lOp ixA (ao 6) (lC (.int 0))) (lOp ixA (ao 7) (lC (.int 0)))) (aj (lOp bU (lOp bU (lOp ixA (ao 6) (lC (.int 1))) (lOp ixA (ao 7) (lC (.int 1)))) (lC (.int 1))) (au))))))
      (aQ)) <| jN ad me
def gR (ad : Ad) (me : LSp) : LS :=
    aD (aR (bR (lB (lOp eqS (ao 2) (lC (.str [110, 111, 116])))) (lB (lOp (eqE false) (ao 3) (lC (.int 2)))))
      (aD (aY (aA me (aj (lOp ixA (ao 0) (lC (.int 1))) (aj (lC (.bl true)) (au)))) 5) <|
    aM (lIf (lB (lOp (isN false) (ao 5) (lC .non))) (lC .non) (aU (aj (lOp ixA (ao 5) (lC (.int 0))) (aj (lOp bU (lOp ixA (ao 5) (lC (.int 1))) (lC (.int 1))) (au))))))
      (aQ)) <| jR ad me
def m9 (ad : Ad) (me : LSp) : LS :=
    aD (aR (bR (lB (lOp eqS (ao 2) (lC (.str [98, 101, 103, 105, 110, 115])))) (lB (lOp (eqE false) (ao 3) (lC (.int 2)))))
      (aD (aY (bA (cM (ao 1)) (bA (lCB sE (aj (lOp ixA (ao 0) (lC (.int 1))) (aj (lC (.ty "str")) (au)))) (lOp eqS (lBM "str" stripE (lOp ixA (ao 0) (lC (.int 1))) (aj (lC (.str [107, 100, 112])) (au))) (lC (.str []))))) 4) <|
    aM (lIf (lT (ao 4)) (aU (aj (lC (.int 1)) (aj (lC (.int 0)) (au)))) (lC .non)))
      (aQ)) <| gR ad me
def qT (ad : Ad) (me : LSp) : LS :=
    aD (aR (bR (lB (lOp eqS (ao 2) (lC (.str [97, 108, 111, 110, 101])))) (lB (lOp (eqE false) (ao 3) (lC (.int 3)))))
      (aM (lIf (bR (lB (lOp inTS (lOp ixA (ao 0) (lC (.int 1))) (aU (aj (lC (.str [108, 101, 102, 116])) (aj (lC (.str [114, 105, 103, 104, 116])) (au)))))) (lT (aA (cP ad) (aj (lOp ixA (ao 0) (lC (.int 2))) (aj (lC (.int 0)) (aj (lOp powE (lC (.int 10)) (lC (.int 60))) (au))))))) (aU (aj (lC (.int 1)) (aj (lC (.int 0)) (au)))) (lC .non)))
      (aQ)) <| m9 ad me
def t__law_counts_2 (ad : Ad) (me : LSp) : LS :=
    aD (aR (bR (lB (lOp eqS (ao 2) (lC (.str [107, 101, 112, 116])))) (lB (lOp (eqE false) (ao 3) (lC (.int 3)))))
      (aM (lIf (bR (lT (aA (cP ad) (aj (lOp ixA (ao 0) (lC (.int 1))) (aj (lC (.int 0)) (aj (lOp powE (lC (.int 10)) (lC (.int 60))) (au)))))) (lT (aA (cP ad) (aj (lOp ixA (ao 0) (lC (.int 2))) (aj (lC (.int 0)) (aj (lOp powE (lC (.int 10)) (lC (.int 60))) (au))))))) (aU (aj (lC (.int 1)) (aj (lC (.int 0)) (au)))) (lC .non)))
      (aQ)) <| qT ad me
def t__law_counts_1 (ad : Ad) (me : LSp) : LS :=
    aD (eU 2 3 (aj (lOp ixA (ao 0) (lC (.int 0))) (aj (lCB dM (aj (ao 0) (au))) (au)))) <| t__law_counts_2 ad me
def t__law_counts_0 (ad : Ad) (me : LSp) : LS :=
    aD (aR (lOr (cY (lT (lCB sE (aj (ao 0) (aj (lC (.ty "tuple")) (au)))))) (lB (lOp (eqE false) (lCB dM (aj (ao 0) (au))) (lC (.int 0)))))
      (aM (lC .non))
      (aQ)) <| t__law_counts_1 ad me
def t__law_counts (ad : Ad) (me : LSp) : LS :=
    aD (aR (lOr (cY (lT (lCB sE (aj (ao 0) (aj (lC (.ty "tuple")) (au)))))) (lB (lOp (eqE false) (lCB dM (aj (ao 0) (au))) (lC (.int 0)))))
      (aM (lC .non))
      (aQ)) <|
    aD (eU 2 3 (aj (lOp ixA (ao 0) (lC (.int 0))) (aj (lCB dM (aj (ao 0) (au))) (au)))) <|
    aD (aR (bR (lB (lOp eqS (ao 2) (lC (.str [107, 101, 112, 116])))) (lB (lOp (eqE false) (ao 3) (lC (.int 3)))))
      (aM (lIf (bR (lT (aA (cP ad) (aj (lOp ixA (ao 0) (lC (.int 1))) (aj (lC (.int 0)) (aj (lOp powE (lC (.int 10)) (lC (.int 60))) (au)))))) (lT (aA (cP ad) (aj (lOp ixA (ao 0) (lC (.int 2))) (aj (lC (.int 0)) (aj (lOp powE (lC (.int 10)) (lC (.int 60))) (au))))))) (aU (aj (lC (.int 1)) (aj (lC (.int 0)) (au)))) (lC .non)))
      (aQ)) <|
    aD (aR (bR (lB (lOp eqS (ao 2) (lC (.str [97, 108, 111, 110, 101])))) (lB (lOp (eqE false) (ao 3) (lC (.int 3)))))
      (aM (lIf (bR (lB (lOp inTS (lOp ixA (ao 0) (lC (.int 1))) (aU (aj (lC (.str [108, 101, 102, 116])) (aj (lC (.str [114, 105, 103, 104, 116])) (au)))))) (lT (aA (cP ad) (aj (lOp ixA (ao 0) (lC (.int 2))) (aj (lC (.int 0)) (aj (lOp powE (lC (.int 10)) (lC (.int 60))) (au))))))) (aU (aj (lC (.int 1)) (aj (lC (.int 0)) (au)))) (lC .non)))
      (aQ)) <|
    aD (aR (bR (lB (lOp eqS (ao 2) (lC (.str [98, 101, 103, 105, 110, 115])))) (lB (lOp (eqE false) (ao 3) (lC (.int 2)))))
      (aD (aY (bA (cM (ao 1)) (bA (lCB sE (aj (lOp ixA (ao 0) (lC (.int 1))) (aj (lC (.ty "str")) (au)))) (lOp eqS (lBM "str" stripE (lOp ixA (ao 0) (lC (.int 1))) (aj (lC (.str [107, 100, 112])) (au))) (lC (.str []))))) 4) <|
    aM (lIf (lT (ao 4)) (aU (aj (lC (.int 1)) (aj (lC (.int 0)) (au)))) (lC .non)))
      (aQ)) <|
    aD (aR (bR (lB (lOp eqS (ao 2) (lC (.str [110, 111, 116])))) (lB (lOp (eqE false) (ao 3) (lC (.int 2)))))
      (aD (aY (aA me (aj (lOp ixA (ao 0) (lC (.int 1))) (aj (lC (.bl true)) (au)))) 5) <|
    aM (lIf (lB (lOp (isN false) (ao 5) (lC .non))) (lC .non) (aU (aj (lOp ixA (ao 5) (lC (.int 0))) (aj (lOp bU (lOp ixA (ao 5) (lC (.int 1))) (lC (.int 1))) (au))))))
      (aQ)) <|
    aD (aR (bR (lOr (lB (lOp eqS (ao 2) (lC (.str [97, 110, 100])))) (lB (lOp eqS (ao 2) (lC (.str [111, 114]))))) (lB (lOp (eqE false) (ao 3) (lC (.int 3)))))
      (aD (eU 6 7 (aj (aA me (aj (lOp ixA (ao 0) (lC (.int 1))) (aj (ao 1) (au)))) (aj (aA me (aj (lOp ixA (ao 0) (lC (.int 2))) (aj (ao 1) (au)))) (au)))) <|
    aM (lIf (lOr (lB (lOp (isN false) (ao 6) (lC .non))) (lB (lOp (isN false) (ao 7) (lC .non)))) (lC .non) (aU (aj (lOp bU (lOp ixA (ao 6) (lC (.int 0))) (lOp ixA (ao 7) (lC (.int 0)))) (aj (lOp bU (lOp bU (lOp ixA (ao 6) (lC (.int 1))) (lOp ixA (ao 7) (lC (.int 1)))) (lC (.int 1))) (au))))))
      (aQ)) <|
    aM (lC .non)
abbrev N__law_is_saying : List Str := ["_law_thing_here", "_law_found"]
def tL (ad : Ad) : LS :=
    aM (bA (lOp (isN true) (ao 1) (lC .non)) (bA (lOp leE (lOp ixA (ao 1) (lC (.int 0))) (lC (.int 4))) (lOp leE (lOp ixA (ao 1) (lC (.int 1))) (lC (.int 8)))))
def ue (ad : Ad) : LS :=
    aD (aY (aA (tH ad) (aj (ao 0) (aj (lC (.bl false)) (au)))) 1) <| tL ad
def t__law_is_saying (ad : Ad) : LS :=
    aD (aY (aA (tH ad) (aj (ao 0) (aj (lC (.bl false)) (au)))) 1) <|
    aM (bA (lOp (isN true) (ao 1) (lC .non)) (bA (lOp leE (lOp ixA (ao 1) (lC (.int 0))) (lC (.int 4))) (lOp leE (lOp ixA (ao 1) (lC (.int 1))) (lC (.int 8)))))
theorem len__law_is_whole (ad : Ad) (evs : List EV) (h : EH) (Q : EK) (q : cP ad evs h Q) : evs.length = ["_law_thing_here", "_law_low", "_law_top"].length := by
  obtain ⟨_, _, _, _, rfl, _⟩ := q; rfl
theorem len__law_counts (ad : Ad) (dd : Nat) (evs : List EV) (h : EH) (Q : EK) (q : bL ad (dd + 1) evs h Q) : evs.length = ["_law_thing_here", "_law_inside"].length := by
  obtain ⟨_, _, _, _, _, rfl, _⟩ := q; rfl
theorem len__law_is_saying (ad : Ad) (evs : List EV) (h : EH) (Q : EK) (q : iI ad evs h Q) : evs.length = ["_law_thing_here"].length := by
  obtain ⟨_, _, _, _, rfl, _⟩ := q; rfl
theorem pure__law_is_whole (ad : Ad) (evs : List EV) (h : EH) (Q : EK) (q : cP ad evs h Q) : mU ad (aN Q) (bJ N__law_is_whole evs) h := by
  obtain ⟨v, t, lo, hi, rfl, e, q⟩ := q
  show mU ad (aN Q) [some v, some (.int lo), some (.int hi)] h
  unfold mU
  simp only [aM, bA, cM, lCB, bV, lC, aj, au, ao, gZ, gS]
  refine isi_t ⟨t, e⟩ (by simp) fun t2 e2 => ?_
  rcases ty_int e2 with ⟨i, rfl, rfl⟩ | ⟨b, rfl, rfl⟩ | ⟨e3, nb⟩
  · rw [show isiB "int" "int" = true from rfl]
    simp only [if_true]
    refine isi_t ⟨t, e⟩ (by simp) fun t3 e4 => ?_
    cases e4
    rw [show isiB "int" "bool" = false from rfl]
    simp only [dX, Bool.not_false, if_true]
    refine (show leE (.int lo) (.int i) h _ from ?_)
    simp only [leE, eQ]
    have q : Q (.bl (decide (lo ≤ i) && decide (i ≤ hi))) h := q
    by_cases c : lo ≤ i
    · rw [decide_eq_true c, Bool.true_and] at q
      rw [decide_eq_true c]
      simp only [if_true]
      exact q
    · rw [decide_eq_false c, Bool.false_and] at q
      rw [decide_eq_false c]
      simp only [Bool.false_eq_true, if_false]
      exact q
  · rw [show isiB "bool" "int" = true from rfl]
    simp only [if_true]
    refine isi_t ⟨t, e⟩ (by simp) fun t3 e4 => ?_
    cases e4
    rw [show isiB "bool" "bool" = true from rfl]
    simp only [dX, Bool.not_true, Bool.false_eq_true, if_false]
    exact q
  · rw [e3]
    simp only [Bool.false_eq_true, if_false]
    rw [nb] at q
    exact q
theorem U.pk {F : Nat → Prop} {h : EH} {n : Nat} {v : EV} {d : PyData} (z : U F h n v d) : pkE v h = true := by
  have lf : tO v d → pkE v h = true := fun z => by cases v <;> first | rfl | exact z.elim
  cases n with
  | zero => exact lf z
  | succ n =>
    rcases z with z | ⟨xs, ds, rfl, l, rfl, p⟩ | ⟨r, xs, ds, rfl, f, e, rfl, p⟩ | ⟨r, kvs, ps, rfl, f, e, rfl, p⟩
    · exact lf z
    · rfl
    · simp only [pkE, e]
    · simp only [pkE, e]
theorem cnt_no {n : Nat} {v : EV} {ins : Bool} (ns : ∀ xs, v ≠ .tup xs) : jm n v ins = none := by
  unfold jm
  split
  · exact absurd rfl (ns _)
  · exact absurd rfl (ns _)
  · rfl
theorem eqS_s {v : EV} {t : List Nat} {h : EH} {P : EK} (p : pkE v h = true) (q : P (.bl (mH v t)) h) : eqS v (.str t) h P := .inl ⟨t, rfl, p, q⟩
theorem len_eq {xs : List EV} {k : Nat} {h : EH} {P : EK} {j : Int} (e : j = (k : Nat)) (p : P (.bl (decide (xs.length = k))) h) : eqE false (.int (xs.length : Nat)) (.int j) h P := by
  subst e
  refine rM ?_
  rw [Bool.false_xor]
  have : decide (((xs.length : Nat) : Int) = (k : Nat)) = decide (xs.length = k) := decide_eq_decide.mpr (by omega)
  rw [this]
  exact p
theorem isN_cnt {o : Option (Nat × Nat)} {b : Bool} {h : EH} {P : EK} (p : P (.bl (b ^^ o.isNone)) h) : isN b (cntE o) .non h P := by
  cases o with
  | none => cases b <;> exact p
  | some a => cases b <;> exact p
theorem pure__law_counts (ad : Ad) (dd : Nat) (evs : List EV) (h : EH) (Q : EK) (q : bL ad (dd + 1) evs h Q) : t__law_counts ad (bL ad dd) (aN Q) (bJ N__law_counts evs) h := by
  obtain ⟨v, ins, F, n, d, rfl, hn, u, hw, q⟩ := q
  have sz : sizeLine = 16777216 := bu
  show t__law_counts_0 ad (bL ad dd) (aN Q) [some v, some (.bl ins), none, none, none, none, none, none] h
  have kn := u.kn
  unfold t__law_counts_0
  rw [aD, aR]
  simp only [lOr, cY, lT, lB, lCB, lOp, lC, aj, au, ao, gZ, gS]
  refine isi_t kn.ty (by simp) fun t2 e2 => ?_
  rcases ty_tup e2 kn.2 with ⟨e3, xs, rfl⟩ | ⟨e3, ns⟩
  case inr =>
    rw [e3]
    simp only [dX, Bool.not_false, if_true, aM, lC]
    rw [cnt_no ns] at q
    exact q h .refl
  rw [e3]
  simp only [dX, Bool.not_true, Bool.false_eq_true, if_false, dM]
  obtain ⟨hl, m, ds, rfl, rfl, p⟩ := u.tup
  refine len_eq (k := 0) rfl ?_
  cases xs with
  | nil =>
    simp only [List.length_nil, decide_true, if_true, aM, lC]
    exact q h .refl
  | cons w r =>
    rw [decide_eq_false (by simp)]
    simp only [Bool.false_eq_true, if_false]
    try refine bB ?_
    cases p with
    | @cons _ d0 _ ds p0 pr =>
    unfold t__law_counts_1
    rw [aD, eU]
    simp only [lOp, lCB, lC, aj, au, ao, gZ, gS, dM]
    refine jE (x := w) at0 ?_
    simp only [sZ, sS]
    have pk := p0.pk
    have num : ∀ x d, U F h m x d → ∀ P : EK, P (.bl (numW x)) h → cP ad [x, .int 0, .int (10 ^ Int.toNat 60)] h P := fun x d ux P hp => by
      obtain ⟨t, et⟩ := ux.kn.ty
      exact ⟨x, t, 0, _, rfl, et, hp⟩
    have no : jm (m + 1) (.tup (w :: r)) ins = none → ∀ x4 x5 x6 x7, jN ad (bL ad dd) (aN Q) [some (.tup (w :: r)), some (.bl ins), some w, some (.int ((w :: r).length : Nat)), x4, x5, x6, x7] h := fun e x4 x5 x6 x7 => by
      unfold jN
      simp only [aM, lC]
      rw [e] at q
      exact q h .refl
    unfold t__law_counts_2
    try dsimp only
    rw [aD, aR]
    by_cases l3 : (w :: r).length = 3
    · obtain ⟨x, y, rfl⟩ : ∃ x y, r = [x, y] := by
        match r, l3 with
        | [x, y], _ => exact ⟨x, y, rfl⟩
      cases pr with
      | @cons _ d1 _ _ p1 pr =>
      cases pr with
      | @cons _ d2 _ _ p2 pr =>
      cases pr
      simp only [PyData.weight, PyData.weightAll] at hw
      simp only [bR, lB, lOp, lC, ao, gZ, gS]
      refine eqS_s pk ?_
      cases c1 : mH w nQ with
      | true =>
        simp only [if_true]
        refine len_eq (k := 3) rfl ?_
        rw [decide_eq_true l3]
        simp only [if_true, aM, lIf, bR, lT, aU, aA, lOp, lC, aj, au, ao, gZ, gS]
        refine jE (x := x) at1 (pow_i (by unfold CPow; decide) (num x d1 p1 _ ?_))
        have ec : jm (m + 1) (.tup [w, x, y]) ins = if (numW x && numW y) = true then some (1, 0) else none := by
          rw [jm, if_pos c1]
        rw [ec] at q
        simp only [dX]
        cases n1 : numW x with
        | false =>
          simp only [Bool.false_eq_true, if_false]
          rw [n1] at q
          exact q h .refl
        | true =>
          simp only [if_true]
          refine jE (x := y) at2 (pow_i (by unfold CPow; decide) (num y d2 p2 _ ?_))
          rw [n1, Bool.true_and] at q
          cases n2 : numW y with
          | false =>
            simp only [dX, Bool.false_eq_true, if_false]
            rw [n2] at q
            exact q h .refl
          | true =>
            simp only [dX, if_true]
            rw [n2] at q
            exact ⟨by rw [sz]; simp, q h .refl⟩
      | false =>
        simp only [Bool.false_eq_true, if_false]
        try refine bB ?_
        unfold qT
        try dsimp only
        rw [aD, aR]
        simp only [bR, lB, lOp, lC, ao, gZ, gS]
        refine eqS_s pk ?_
        cases c2 : mH w jD with
        | true =>
          simp only [if_true]
          refine len_eq (k := 3) rfl ?_
          rw [decide_eq_true l3]
          simp only [if_true, aM, lIf, bR, lB, lT, aU, aA, lOp, lC, aj, au, ao, gZ, gS]
          refine jE (x := x) at1 ⟨by rw [sz]; simp, .inl ⟨[wLeft, wRight], rfl, p1.pk, ?_⟩⟩
          have es : [wLeft, wRight].any (mH x) = ph x := by
            cases x <;> first | rfl | simp [mH, ph]
          rw [es]
          have ec : jm (m + 1) (.tup [w, x, y]) ins = if (ph x && numW y) = true then some (1, 0) else none := by
            rw [jm, if_neg (by rw [c1]; decide), if_pos c2]
          rw [ec] at q
          cases n1 : ph x with
          | false =>
            simp only [Bool.false_eq_true, if_false]
            rw [n1] at q
            exact q h .refl
          | true =>
            simp only [if_true]
            refine jE (x := y) at2 (pow_i (by unfold CPow; decide) (num y d2 p2 _ ?_))
            rw [n1, Bool.true_and] at q
            cases n2 : numW y with
            | false =>
              simp only [dX, Bool.false_eq_true, if_false]
              rw [n2] at q
              exact q h .refl
            | true =>
              simp only [dX, if_true]
              rw [n2] at q
              exact ⟨by rw [sz]; simp, q h .refl⟩
        | false =>
          simp only [Bool.false_eq_true, if_false]
          try refine bB ?_
          have ec : jm (m + 1) (.tup [w, x, y]) ins = if (mH w wAnd || mH w wOr) = true then cntB (jm m x ins) (jm m y ins) else none := by
            rw [jm, if_neg (by rw [c1]; decide), if_neg (by rw [c2]; decide)]
          have l2 : decide (([w, x, y] : List EV).length = 2) = false := rfl
          unfold m9
          try dsimp only
          rw [aD, aR]
          simp only [bR, lB, lOp, lC, ao, gZ, gS]
          refine eqS_s pk ?_
          have go5 : gR ad (bL ad dd) (aN Q) [some (.tup [w, x, y]), some (.bl ins), some w, some (.int (([w, x, y] : List EV).length : Nat)), none, none, none, none] h := by
            have go6 : jR ad (bL ad dd) (aN Q) [some (.tup [w, x, y]), some (.bl ins), some w, some (.int (([w, x, y] : List EV).length : Nat)), none, none, none, none] h := by
              unfold jR
              try dsimp only
              rw [aD, aR]
              simp only [bR, lOr, lB, lOp, lC, ao, gZ, gS]
              have join : (mH w wAnd || mH w wOr) = true → ∀ P : LS, (aD (eU 6 7 (aj (aA (bL ad dd) (aj (lOp ixA (ao 0) (lC (.int 1))) (aj (ao 1) (au)))) (aj (aA (bL ad dd) (aj (lOp ixA (ao 0) (lC (.int 2))) (aj (ao 1) (au)))) (au)))) <|
                  aM (lIf (lOr (lB (lOp (isN false) (ao 6) (lC .non))) (lB (lOp (isN false) (ao 7) (lC .non)))) (lC .non) (aU (aj (lOp bU (lOp ixA (ao 6) (lC (.int 0))) (lOp ixA (ao 7) (lC (.int 0)))) (aj (lOp bU (lOp bU (lOp ixA (ao 6) (lC (.int 1))) (lOp ixA (ao 7) (lC (.int 1)))) (lC (.int 1))) (au)))))) { nx := P (aN Q), rt := Q, bk := (aN Q).bk, ct := (aN Q).ct } [some (.tup [w, x, y]), some (.bl ins), some w, some (.int (([w, x, y] : List EV).length : Nat)), none, none, none, none] h := by
                intro c P
                rw [ec, if_pos c] at q
                obtain ⟨dd, rfl⟩ : ∃ e, dd = e + 1 := ⟨dd - 1, by omega⟩
                rw [aD, eU]
                simp only [aA, lOp, lC, aj, au, ao, gZ, gS]
                refine jE (x := x) at1 ⟨x, ins, F, m, d1, rfl, by omega, p1, by omega, fun h1 k1 => ?_⟩
                refine jE (x := y) at2 ⟨y, ins, F, m, d2, rfl, by omega, p2.keep k1.all, by omega, fun h2 k2 => ?_⟩
                simp only [sZ, sS, aM, lIf, lOr, lB, aU, lOp, lC, aj, au, ao, gZ, gS]
                have k12 := k1.trans k2
                generalize jm m x ins = o1 at q ⊢
                generalize jm m y ins = o2 at q ⊢
                refine isN_cnt ?_
                cases o1 with
                | none =>
                  simp only [Option.isNone, Bool.false_xor, if_true]
                  exact q h2 k12
                | some a =>
                  simp only [Option.isNone, Bool.false_xor, Bool.false_eq_true, if_false]
                  refine isN_cnt ?_
                  cases o2 with
                  | none =>
                    simp only [Option.isNone, Bool.false_xor, if_true]
                    exact q h2 k12
                  | some b =>
                    simp only [Option.isNone, Bool.false_xor, Bool.false_eq_true, if_false, cntE]
                    refine jE at0 (jE at0 (rJ ?_))
                    refine jE at1 (jE at1 (rJ (rJ ⟨by rw [sz]; simp, ?_⟩)))
                    have := q h2 k12
                    simp only [cntB, cntE] at this
                    rw [show ((a.1 : Nat) : Int) + (b.1 : Nat) = ((a.1 + b.1 : Nat) : Int) by omega, show ((a.2 : Nat) : Int) + (b.2 : Nat) + 1 = ((a.2 + b.2 + 1 : Nat) : Int) by omega]
                    exact this
              refine eqS_s pk ?_
              cases c3 : mH w wAnd with
              | true =>
                simp only [if_true]
                refine len_eq (k := 3) rfl ?_
                rw [decide_eq_true l3]
                simp only [if_true]
                exact join (by rw [c3]; rfl) (jN ad (bL ad dd))
              | false =>
                simp only [Bool.false_eq_true, if_false]
                refine eqS_s pk ?_
                cases c4 : mH w wOr with
                | true =>
                  simp only [if_true]
                  refine len_eq (k := 3) rfl ?_
                  rw [decide_eq_true l3]
                  simp only [if_true]
                  exact join (by rw [c3, c4]; rfl) (jN ad (bL ad dd))
                | false =>
                  simp only [Bool.false_eq_true, if_false]
                  try refine bB ?_
                  exact no (by rw [ec, if_neg (by rw [c3, c4]; decide)]) _ _ _ _
            unfold gR
            try dsimp only
            rw [aD, aR]
            simp only [bR, lB, lOp, lC, ao, gZ, gS]
            refine eqS_s pk ?_
            cases mH w wNot with
            | true =>
              simp only [if_true]
              refine len_eq (k := 2) rfl ?_
              rw [l2]
              simp only [Bool.false_eq_true, if_false]
              try refine bB ?_
              exact go6
            | false =>
              simp only [Bool.false_eq_true, if_false]
              try refine bB ?_
              exact go6
          cases mH w dJ with
          | true =>
            simp only [if_true]
            refine len_eq (k := 2) rfl ?_
            rw [l2]
            simp only [Bool.false_eq_true, if_false]
            try refine bB ?_
            exact go5
          | false =>
            simp only [Bool.false_eq_true, if_false]
            try refine bB ?_
            exact go5
    · -- not three parts
      have n3 : decide ((w :: r).length = 3) = false := decide_eq_false l3
      have skip : ∀ (W : List Nat) (P : Bool → EH → Prop), P false h → bR (lB (lOp eqS (ao 2) (lC (.str W)))) (lB (lOp (eqE false) (ao 3) (lC (.int 3)))) [some (.tup (w :: r)), some (.bl ins), some w, some (.int ((w :: r).length : Nat)), none, none, none, none] h P := by
        intro W P hp
        simp only [bR, lB, lOp, lC, ao, gZ, gS]
        refine eqS_s pk ?_
        cases mH w W with
        | true =>
          simp only [if_true]
          refine len_eq (k := 3) rfl ?_
          rw [n3]
          exact hp
        | false =>
          simp only [Bool.false_eq_true, if_false]
          exact hp
      refine skip _ _ ?_
      simp only [Bool.false_eq_true, if_false]
      try refine bB ?_
      unfold qT
      try dsimp only
      rw [aD, aR]
      refine skip _ _ ?_
      simp only [Bool.false_eq_true, if_false]
      try refine bB ?_
      have end6 : ∀ x4 x5, jm (m + 1) (.tup (w :: r)) ins = none → jR ad (bL ad dd) (aN Q) [some (.tup (w :: r)), some (.bl ins), some w, some (.int ((w :: r).length : Nat)), x4, x5, none, none] h := by
        intro x4 x5 en
        unfold jR
        rw [aD, aR]
        simp only [bR, lOr, lB, lOp, lC, ao, gZ, gS]
        refine eqS_s pk ?_
        cases mH w wAnd with
        | true =>
          simp only [if_true]
          refine len_eq (k := 3) rfl ?_
          rw [n3]
          simp only [Bool.false_eq_true, if_false]
          try refine bB ?_
          exact no en _ _ _ _
        | false =>
          simp only [Bool.false_eq_true, if_false]
          refine eqS_s pk ?_
          cases mH w wOr with
          | true =>
            simp only [if_true]
            refine len_eq (k := 3) rfl ?_
            rw [n3]
            simp only [Bool.false_eq_true, if_false]
            try refine bB ?_
            exact no en _ _ _ _
          | false =>
            simp only [Bool.false_eq_true, if_false]
            try refine bB ?_
            exact no en _ _ _ _
      by_cases l2 : (w :: r).length = 2
      · obtain ⟨x, rfl⟩ : ∃ x, r = [x] := by
          match r, l2 with
          | [x], _ => exact ⟨x, rfl⟩
        cases pr with
        | @cons _ d1 _ _ p1 pr =>
        cases pr
        simp only [PyData.weight, PyData.weightAll] at hw
        unfold m9
        try dsimp only
        rw [aD, aR]
        simp only [bR, lB, lOp, lC, ao, gZ, gS]
        refine eqS_s pk ?_
        cases c1 : mH w dJ with
        | true =>
          have ec : jm (m + 1) (.tup [w, x]) ins = if (!ins && pY x) = true then some (1, 0) else none := by
            rw [jm, if_pos c1]
          rw [ec] at q
          simp only [if_true]
          refine len_eq (k := 2) rfl ?_
          rw [decide_eq_true l2]
          simp only [if_true]
          rw [aD, aY]
          simp only [bA, cM, lBM, lCB, lOp, lC, aj, au, ao, gZ, gS, dX]
          have fin : ∀ b : Bool, b = (!ins && pY x) → (aM (lIf (lT (ao 4)) (aU (aj (lC (.int 1)) (aj (lC (.int 0)) (au)))) (lC .non))) { nx := gR ad (bL ad dd) (aN Q), rt := Q, bk := (aN Q).bk, ct := (aN Q).ct } [some (.tup [w, x]), some (.bl ins), some w, some (.int (([w, x] : List EV).length : Nat)), some (.bl b), none, none, none] h := by
            intro b eb
            rw [← eb] at q
            simp only [aM, lIf, lT, aU, lC, aj, au, ao, gZ, gS, dX]
            cases b with
            | true =>
              simp only [if_true]
              exact ⟨by rw [sz]; simp, q h .refl⟩
            | false =>
              simp only [Bool.false_eq_true, if_false]
              exact q h .refl
          cases ins with
          | true =>
            simp only [Bool.not_true, Bool.false_eq_true, if_false, sZ, sS]
            exact fin false rfl
          | false =>
            simp only [Bool.not_false, if_true]
            refine jE (x := x) at1 (isi_t p1.kn.ty (by simp) fun t3 e4 => ?_)
            rcases ty_str e4 with ⟨e5, s, rfl⟩ | ⟨e5, ns⟩
            · rw [e5]
              simp only [if_true]
              refine jE (x := .str s) at1 ⟨rfl, ?_⟩
              have hs : d1 = .str (S s) := p1.str
              subst hs
              simp only [PyData.weight] at hw
              have sa : s.toArray.size = s.length := by simp
              have sl : s.length ≤ 100000 := by omega
              refine ⟨by omega, fun u hu => .inr (eq_s ?_)⟩
              simp only [sZ, sS]
              refine fin _ ?_
              have : decide (u = []) = pY (.str s) := by
                rw [Bool.eq_iff_iff, decide_eq_true_eq, hu]
                unfold pY
                rw [List.all_eq_true]
                constructor
                · intro hh c hc
                  have := hh c hc
                  simp only [List.mem_cons, List.not_mem_nil, or_false] at this
                  rcases this with rfl | rfl | rfl <;> rfl
                · intro hh c hc
                  have := hh c hc
                  unfold isSt at this
                  simp only [Bool.or_eq_true, decide_eq_true_eq] at this
                  simp only [List.mem_cons, List.not_mem_nil, or_false]
                  rcases this with (rfl | rfl) | rfl <;> simp
              rw [this]
              simp
            · rw [e5]
              simp only [Bool.false_eq_true, if_false, sZ, sS]
              exact fin false (by rw [scr_no ns]; rfl)
        | false =>
          simp only [Bool.false_eq_true, if_false]
          try refine bB ?_
          have ec : jm (m + 1) (.tup [w, x]) ins = if mH w wNot = true then cntN (jm m x true) else none := by
            rw [jm, if_neg (by rw [c1]; decide)]
          unfold gR
          try dsimp only
          rw [aD, aR]
          simp only [bR, lB, lOp, lC, ao, gZ, gS]
          refine eqS_s pk ?_
          cases c2 : mH w wNot with
          | true =>
            rw [ec, if_pos c2] at q
            simp only [if_true]
            refine len_eq (k := 2) rfl ?_
            rw [decide_eq_true l2]
            simp only [if_true]
            obtain ⟨dd, rfl⟩ : ∃ e, dd = e + 1 := ⟨dd - 1, by omega⟩
            rw [aD, aY]
            simp only [aA, lOp, lC, aj, au, ao, gZ, gS]
            refine jE (x := x) at1 ⟨x, true, F, m, d1, rfl, by omega, p1, by omega, fun h1 k1 => ?_⟩
            simp only [sZ, sS, aM, lIf, lB, aU, lOp, lC, aj, au, ao, gZ, gS]
            generalize jm m x true = o1 at q ⊢
            refine isN_cnt ?_
            cases o1 with
            | none =>
              simp only [Option.isNone, Bool.false_xor, if_true]
              exact q h1 k1
            | some a =>
              simp only [Option.isNone, Bool.false_xor, Bool.false_eq_true, if_false, cntE]
              refine jE at0 (jE at1 (rJ ⟨by rw [sz]; simp, ?_⟩))
              have := q h1 k1
              simp only [cntN, cntE] at this
              rw [show ((a.2 : Nat) : Int) + 1 = ((a.2 + 1 : Nat) : Int) by omega]
              exact this
          | false =>
            simp only [Bool.false_eq_true, if_false]
            try refine bB ?_
            exact end6 _ _ (by rw [ec, if_neg (by rw [c2]; decide)])
      · have n2 : decide ((w :: r).length = 2) = false := decide_eq_false l2
        have en : jm (m + 1) (.tup (w :: r)) ins = none := by
          match r, l3, l2 with
          | [], _, _ => rfl
          | [_], _, l2 => exact absurd rfl l2
          | [_, _], l3, _ => exact absurd rfl l3
          | _ :: _ :: _ :: _, _, _ => rfl
        have skip2 : ∀ (W : List Nat) (x4 x5 : Option EV) (P : Bool → EH → Prop), P false h → bR (lB (lOp eqS (ao 2) (lC (.str W)))) (lB (lOp (eqE false) (ao 3) (lC (.int 2)))) [some (.tup (w :: r)), some (.bl ins), some w, some (.int ((w :: r).length : Nat)), x4, x5, none, none] h P := by
          intro W x4 x5 P hp
          simp only [bR, lB, lOp, lC, ao, gZ, gS]
          refine eqS_s pk ?_
          cases mH w W with
          | true =>
            simp only [if_true]
            refine len_eq (k := 2) rfl ?_
            rw [n2]
            exact hp
          | false =>
            simp only [Bool.false_eq_true, if_false]
            exact hp
        unfold m9
        try dsimp only
        rw [aD, aR]
        refine skip2 _ _ _ _ ?_
        simp only [Bool.false_eq_true, if_false]
        try refine bB ?_
        unfold gR
        try dsimp only
        rw [aD, aR]
        refine skip2 _ _ _ _ ?_
        simp only [Bool.false_eq_true, if_false]
        try refine bB ?_
        exact end6 _ _ en
theorem pure__law_is_saying (ad : Ad) (evs : List EV) (h : EH) (Q : EK) (q : iI ad evs h Q) : t__law_is_saying ad (aN Q) (bJ N__law_is_saying evs) h := by
  obtain ⟨v, F, n, d, rfl, hn, u, hw, q⟩ := q
  show ue ad (aN Q) [some v, none] h
  unfold ue
  rw [aD, aY]
  simp only [aA, lC, aj, au, ao, gZ, gS]
  refine (show bL ad (39 + 1) [v, .bl false] h _ from ⟨v, false, F, n, d, rfl, hn, u, hw, fun h1 k1 => ?_⟩)
  simp only [sZ, sS]
  have q1 := q h1 k1
  unfold tL
  simp only [aM, bA, lOp, lC, aj, au, ao, gZ, gS]
  generalize jm n v false = o at q1 ⊢
  refine isN_cnt ?_
  cases o with
  | none =>
    simp only [Option.isNone, Bool.xor_true, Bool.not_true, Bool.false_eq_true, if_false]
    exact q1
  | some a =>
    simp only [Option.isNone, Bool.xor_false, if_true, cntE]
    refine jE at0 (le_i ?_)
    have e1 : decide (((a.1 : Nat) : Int) ≤ 4) = decide (a.1 ≤ 4) := decide_eq_decide.mpr (by omega)
    have e2 : decide (((a.2 : Nat) : Int) ≤ 8) = decide (a.2 ≤ 8) := decide_eq_decide.mpr (by omega)
    rw [e1]
    by_cases c : a.1 ≤ 4
    · rw [decide_eq_true c]
      simp only [if_true]
      refine jE at1 (le_i ?_)
      rw [e2]
      simpa [cntOk, c] using q1
    · rw [decide_eq_false c]
      simp only [Bool.false_eq_true, if_false]
      simpa [cntOk, c] using q1
structure SayOk (a : Say) : Prop where
  g : a.Good
  l4 : a.leaves.length ≤ 4
  w8 : a.words ≤ 8
  ok : a.okD false = true
theorem Say.siz (a : Say) : mO a = a.words + a.leaves.length := by
  induction a with
  | neg p ih => simp only [mO, Say.words, Say.leaves]; omega
  | bin b p q h1 h2 => simp only [mO, Say.words, Say.leaves, List.length_append]; omega
  | _ => rfl
theorem scr_is {x : EV} (e : pY x = true) : ∃ s, x = .str s ∧ StepC s := by
  unfold pY at e
  split at e
  · refine ⟨_, rfl, fun c hc => ?_⟩
    have := List.all_eq_true.mp e c hc
    unfold isSt at this
    simp only [Bool.or_eq_true, decide_eq_true_eq] at this
    rcases this with (h | h) | h
    · exact .inl h
    · exact .inr (.inl h)
    · exact .inr (.inr h)
  · cases e
theorem scr_of {s : List Nat} (g : StepC s) : pY (.str s) = true := by
  unfold pY
  rw [List.all_eq_true]
  intro c hc
  have := g c hc
  simp only [isSt]
  rcases this with rfl | rfl | rfl <;> rfl
theorem num_is {x : EV} (e : rE x = true) : ∃ i : Nat, x = .int i := by
  unfold rE at e
  split at e
  · rename_i i
    exact ⟨i.toNat, by rw [decide_eq_true_eq] at e; rw [Int.toNat_of_nonneg e]⟩
  · cases e
theorem side_is {x : EV} (e : ph x = true) : ∃ k, x = .str (sdN k) := by
  unfold ph at e
  split at e
  · rw [Bool.or_eq_true, decide_eq_true_eq, decide_eq_true_eq] at e
    rcases e with rfl | rfl
    · exact ⟨false, rfl⟩
    · exact ⟨true, rfl⟩
  · cases e
theorem side_of (k : Bool) : ph (.str (sdN k)) = true := by cases k <;> rfl
theorem atom_of {a : Say} (ha : a.isAtom = true) (g : a.Good) : nO a.e = true := by
  cases a with
  | neg p => cases ha
  | bin b p q => cases ha
  | kept i j => show (!decide (nQ = dJ) && rE (.int j) && (decide (nQ = nQ) && rE (.int i) || decide (nQ = jD) && ph (.int i))) = true; rw [numBV_nat, numBV_nat]; rfl
  | alone k i => show (!decide (jD = dJ) && rE (.int i) && (decide (jD = nQ) && rE (.str (sdN k)) || decide (jD = jD) && ph (.str (sdN k)))) = true; rw [numBV_nat, side_of]; rfl
  | begins s => show (decide (dJ = dJ) && pY (.str s)) = true; rw [scr_of g.1]; rfl
theorem atom_is {h : EH} {v : EV} (e : nO v = true) (d : Dp 1 h v) : ∃ a : Say, v = a.e ∧ a.isAtom = true ∧ a.Good := by
  unfold nO at e
  split at e
  · rename_i w x
    rw [Bool.and_eq_true, decide_eq_true_eq] at e
    obtain ⟨rfl, e⟩ := e
    obtain ⟨s, rfl, hs⟩ := scr_is e
    have := ((d.2 _ rfl).2 (.str s) (by simp)).2.1 s rfl
    exact ⟨.begins s, rfl, rfl, hs, this.1⟩
  · rename_i w x y
    rw [Bool.and_eq_true, Bool.and_eq_true, Bool.or_eq_true, Bool.and_eq_true, Bool.and_eq_true, decide_eq_true_eq, decide_eq_true_eq] at e
    obtain ⟨⟨_, ey⟩, ⟨rfl, ex⟩ | ⟨rfl, ex⟩⟩ := e
    · obtain ⟨i, rfl⟩ := num_is ex
      obtain ⟨j, rfl⟩ := num_is ey
      exact ⟨.kept i j, rfl, rfl, trivial⟩
    · obtain ⟨k, rfl⟩ := side_is ex
      obtain ⟨j, rfl⟩ := num_is ey
      exact ⟨.alone k j, rfl, rfl, trivial⟩
  · cases e
theorem join_no {a : Say} (ha : a.isAtom = false) : nO a.e = false ∧ joinB a.e = true := by
  cases a with
  | neg p => exact ⟨by show (decide (wNot = dJ) && pY p.e) = false; rfl, rfl⟩
  | bin b p q => cases b <;> exact ⟨by simp [Say.e, nO, bnN], rfl⟩
  | _ => cases ha
theorem beg_is (a : Say) : begB a.e = a.isBeg := by
  cases a with
  | bin b p q => cases b <;> rfl
  | _ => rfl
theorem parts_is {a : Say} (ha : a.isAtom = false) (d : Bool) : lW a.e d = (qP (a, d)).map fun x => (x.1.e, x.2) := by
  cases a with
  | neg p => cases d <;> rfl
  | bin b p q => cases b <;> cases d <;> rfl
  | _ => cases ha
theorem goA_say : ∀ (f : Nat) (todo : List (Say × Bool)) (dn : List EV) (w : Nat), szs todo ≤ f → (∀ x ∈ todo, x.1.Good ∧ x.1.okD x.2 = true) → dn.length + (lvs todo).length ≤ 4 → w + wds todo ≤ 8 →
    goA f (todo.map fun x => (x.1.e, x.2)) dn w = some (dn ++ (lvs todo).map Say.e)
  | f, [], dn, w, _, _, _, _ => by
    rw [List.map_nil]
    cases f <;> simp [goA, lvs]
  | 0, x :: t, dn, w, hf, _, _, _ => by
    have : 1 ≤ mO x.1 := by cases x.1 <;> simp only [mO] <;> omega
    unfold szs at hf
    rw [List.map_cons, List.sum_cons] at hf
    omega
  | f + 1, (a, d) :: t, dn, w, hf, hg, hl, hw => by
    obtain ⟨ga, oa⟩ := hg (a, d) (by simp)
    have ht : ∀ x ∈ t, x.1.Good ∧ x.1.okD x.2 = true := fun x hx => hg x (List.mem_cons_of_mem _ hx)
    simp only at ga oa
    unfold szs at hf
    unfold wds at hw
    rw [List.map_cons, List.sum_cons] at hf hw
    unfold lvs at hl
    rw [List.flatMap_cons, List.length_append] at hl
    simp only at hf hw hl
    rw [List.map_cons, goA]
    cases ha : a.isAtom with
    | true =>
      rw [if_pos (atom_of ha ga)]
      have e0 : a.leaves = [a] := by cases a <;> first | rfl | cases ha
      have ew0 : a.words = 0 := by cases a <;> first | rfl | cases ha
      have es : mO a = 1 := by cases a <;> first | rfl | cases ha
      have hb : (d && begB a.e) = false := by
        rw [beg_is]
        cases d with
        | false => rfl
        | true => cases a <;> first | rfl | cases oa
      rw [hb, if_neg (by decide)]
      rw [e0] at hl
      simp only [List.length_singleton] at hl
      rw [if_neg (by omega)]
      have ih := goA_say f t (dn ++ [a.e]) w (by unfold szs; omega) ht (by rw [List.length_append]; simp only [List.length_singleton]; unfold lvs; omega) (by unfold wds; omega)
      rw [ih]
      unfold lvs
      rw [List.flatMap_cons]
      simp only [e0]
      simp
    | false =>
      obtain ⟨h1, h2⟩ := join_no ha
      rw [if_neg (by rw [h1]; decide), if_pos h2]
      have e1 : 1 ≤ a.words := by cases a <;> first | (simp only [Say.words]; omega) | cases ha
      rw [if_neg (by omega), parts_is ha, ← List.map_append]
      have p1 : szs (qP (a, d)) + 1 = mO a ∧ wds (qP (a, d)) + 1 = a.words ∧ lvs (qP (a, d)) = a.leaves ∧ ∀ x ∈ qP (a, d), x.1.Good ∧ x.1.okD x.2 = true := by
        cases a with
        | neg p => exact ⟨by simp [szs, qP, mO], by simp [wds, qP, Say.words], by simp [lvs, qP, Say.leaves], fun x hx => by
            rw [List.mem_singleton.mp hx]; exact ⟨ga, oa⟩⟩
        | bin b p q =>
          simp only [Say.okD, Bool.and_eq_true] at oa
          refine ⟨by simp [szs, qP, mO], by simp [wds, qP, Say.words], by simp [lvs, qP, Say.leaves], fun x hx => ?_⟩
          rcases List.mem_cons.mp hx with rfl | hx
          · exact ⟨ga.1, oa.1⟩
          · rw [List.mem_singleton.mp hx]; exact ⟨ga.2, oa.2⟩
        | _ => cases ha
      obtain ⟨q1, q2, q3, q4⟩ := p1
      have sa : ∀ l m : List (Say × Bool), szs (l ++ m) = szs l + szs m := fun l m => by unfold szs; rw [List.map_append, List.sum_append]
      have wa : ∀ l m : List (Say × Bool), wds (l ++ m) = wds l + wds m := fun l m => by unfold wds; rw [List.map_append, List.sum_append]
      have la : ∀ l m : List (Say × Bool), lvs (l ++ m) = lvs l ++ lvs m := fun l m => by unfold lvs; rw [List.flatMap_append]
      have ih := goA_say f (qP (a, d) ++ t) dn (w + 1) (by rw [sa]; unfold szs at *; omega) (fun x hx => by
        rcases List.mem_append.mp hx with hx | hx
        · exact q4 x hx
        · exact ht x hx) (by rw [la, List.length_append, q3]; unfold lvs; omega) (by rw [wa]; unfold wds at *; omega)
      rw [ih, la, q3]
      unfold lvs
      rw [List.flatMap_cons]
theorem goA_is {h : EH} : ∀ (f : Nat) (todo : List (EV × Bool)) (dn : List EV) (w : Nat) (l : List EV), dn.length ≤ 4 → w ≤ 8 → (∀ x ∈ todo, Dp (3 + (8 - w)) h x.1) → goA f todo dn w = some l →
    ∃ ss : List (Say × Bool), todo = (ss.map fun x => (x.1.e, x.2)) ∧ (∀ x ∈ ss, x.1.Good ∧ x.1.okD x.2 = true) ∧ l = dn ++ (lvs ss).map Say.e ∧ dn.length + (lvs ss).length ≤ 4 ∧ w + wds ss ≤ 8
  | f, [], dn, w, l, h4, h8, _, e => by
    have : l = dn := by cases f <;> (rw [goA] at e; cases e; rfl)
    exact ⟨[], rfl, by simp, by rw [this]; simp [lvs], by simpa [lvs] using h4, by simpa [wds] using h8⟩
  | 0, x :: t, dn, w, l, _, _, _, e => by rw [goA] at e; cases e
  | f + 1, (v, d) :: t, dn, w, l, h4, h8, hd, e => by
    have dv : Dp (3 + (8 - w)) h v := hd (v, d) (by simp)
    have dt : ∀ x ∈ t, Dp (3 + (8 - w)) h x.1 := fun x hx => hd x (List.mem_cons_of_mem _ hx)
    rw [goA] at e
    split at e
    · rename_i ha
      split at e
      · cases e
      · rename_i hb
        split at e
        · cases e
        · rename_i h5
          obtain ⟨ss, rfl, hg, rfl, l4, l8⟩ := goA_is f t (dn ++ [v]) w l (by rw [List.length_append]; simp only [List.length_singleton]; omega) h8 dt e
          obtain ⟨a, rfl, aa, ag⟩ := atom_is ha (dv.le (by omega))
          have e0 : a.leaves = [a] := by cases a <;> first | rfl | cases aa
          have ew0 : a.words = 0 := by cases a <;> first | rfl | cases aa
          rw [List.length_append] at l4
          simp only [List.length_singleton] at l4
          refine ⟨(a, d) :: ss, rfl, fun x hx => ?_, ?_, ?_, ?_⟩
          · rcases List.mem_cons.mp hx with rfl | hx
            · refine ⟨ag, ?_⟩
              rw [beg_is] at hb
              cases d with
              | false => cases a <;> first | rfl | cases aa
              | true => cases a <;> first | rfl | (cases aa; done) | exact absurd rfl hb
            · exact hg x hx
          · unfold lvs
            rw [List.flatMap_cons]
            simp only [e0]
            simp
          · unfold lvs at l4 ⊢
            rw [List.flatMap_cons, List.length_append]
            simp only [e0, List.length_singleton]
            omega
          · unfold wds at l8 ⊢
            rw [List.map_cons, List.sum_cons]
            simp only [ew0]
            omega
    · rename_i ha
      split at e
      · rename_i hj
        split at e
        · cases e
        · rename_i h9
          have d9 : 3 + (8 - w) = (3 + (8 - (w + 1))) + 1 := by omega
          rw [d9] at dv
          obtain ⟨sw, xs, rfl, xn, xl⟩ := joinB_is hj
          obtain ⟨ss, es, hg, rfl, l4, l8⟩ := goA_is f (lW (.tup (.str sw :: xs)) d ++ t) dn (w + 1) l h4 (by omega) (fun x hx => by
            rcases List.mem_append.mp hx with hx | hx
            · obtain ⟨y, hy, rfl⟩ := List.mem_map.mp hx
              exact (dv.2 _ rfl).2 y (by simp [hy])
            · exact (dt x hx).le (by omega)) e
          match xs, hj, xn, xl, es with
          | [x], hj, _, _, es =>
            have hn : sw = wNot := by simpa [joinB] using hj
            subst hn
            cases ss with
            | nil => exact absurd (congrArg List.length es) (by simp [lW])
            | cons s ss =>
              obtain ⟨p, dp⟩ := s
              simp only [lW, List.map_cons, List.map_nil, List.singleton_append, List.cons.injEq, Prod.mk.injEq] at es
              obtain ⟨⟨rfl, rfl⟩, rfl⟩ := es
              obtain ⟨g1, g2⟩ := hg _ List.mem_cons_self
              refine ⟨(.neg p, d) :: ss, rfl, fun x hx => ?_, ?_, ?_, ?_⟩
              · rcases List.mem_cons.mp hx with rfl | hx
                · refine ⟨g1, ?_⟩
                  show p.okD true = true
                  simpa using g2
                · exact hg x (List.mem_cons_of_mem _ hx)
              · simp [lvs, Say.leaves]
              · simpa [lvs, Say.leaves] using l4
              · simp only [wds, List.map_cons, List.sum_cons, Say.words] at l8 ⊢; omega
          | [x, y], hj, _, _, es =>
            have hn : ∃ b, sw = bnN b := by
              simp only [joinB, Bool.or_eq_true, decide_eq_true_eq] at hj
              rcases hj with rfl | rfl
              · exact ⟨true, rfl⟩
              · exact ⟨false, rfl⟩
            obtain ⟨b, rfl⟩ := hn
            cases ss with
            | nil => exact absurd (congrArg List.length es) (by simp [lW])
            | cons s ss =>
              cases ss with
              | nil => exact absurd (congrArg List.length es) (by simp [lW])
              | cons s2 ss =>
                obtain ⟨p, dp⟩ := s
                obtain ⟨p2, dp2⟩ := s2
                simp only [lW, List.map_cons, List.map_nil, List.cons_append, List.nil_append, List.cons.injEq, Prod.mk.injEq] at es
                obtain ⟨⟨rfl, rfl⟩, ⟨rfl, rfl⟩, rfl⟩ := es
                obtain ⟨g1, g2⟩ := hg _ List.mem_cons_self
                obtain ⟨g3, g4⟩ := hg _ (List.mem_cons_of_mem _ List.mem_cons_self)
                have nb : decide (bnN b = wNot) = false := by cases b <;> rfl
                simp only [nb, Bool.or_false] at g2 g4
                refine ⟨(.bin b p p2, d) :: ss, rfl, fun x hx => ?_, ?_, ?_, ?_⟩
                · rcases List.mem_cons.mp hx with rfl | hx
                  · exact ⟨⟨g1, g3⟩, by simp only [Say.okD, g2, g4, Bool.and_self]⟩
                  · exact hg x (List.mem_cons_of_mem _ (List.mem_cons_of_mem _ hx))
                · simp [lvs, Say.leaves]
                · simp only [lvs, List.flatMap_cons, Say.leaves, List.length_append] at l4 ⊢; omega
                · simp only [wds, List.map_cons, List.sum_cons, Say.words] at l8 ⊢; omega
          | [], _, xn, _, _ => exact absurd rfl xn
          | _ :: _ :: _ :: _, _, _, xl, _ => simp at xl
      · cases e
theorem atsV_is {h : EH} {v : EV} {l : List EV} (d : Dp 12 h v) (e : atsV v = some l) : ∃ a : Say, v = a.e ∧ SayOk a ∧ l = a.leaves.map Say.e := by
  obtain ⟨ss, es, hg, rfl, l4, l8⟩ := goA_is (h := h) 13 [(v, false)] [] 0 l (by simp) (by omega) (fun x hx => by rw [List.mem_singleton.mp hx]; exact d.le (by decide)) e
  cases ss with
  | nil => exact absurd (congrArg List.length es) (by simp)
  | cons s ss =>
    cases ss with
    | cons _ _ => exact absurd (congrArg List.length es) (by simp)
    | nil =>
      obtain ⟨a, b⟩ := s
      simp only [List.map_cons, List.map_nil, List.cons.injEq, Prod.mk.injEq, and_true] at es
      obtain ⟨rfl, rfl⟩ := es
      obtain ⟨g1, g2⟩ := hg _ List.mem_cons_self
      refine ⟨a, rfl, ⟨g1, by simpa [lvs] using l4, by simpa [wds] using l8, g2⟩, by simp [lvs]⟩
theorem atsV_of {a : Say} (s : SayOk a) : atsV a.e = some (a.leaves.map Say.e) := by
  have h1 := a.siz
  have h2 := s.l4
  have h3 := s.w8
  have := goA_say 13 [(a, false)] [] 0 (by simp [szs]; omega) (fun x hx => by rw [List.mem_singleton.mp hx]; exact ⟨s.g, s.ok⟩) (by simpa [lvs] using s.l4) (by simpa [wds] using s.w8)
  simpa [lvs, atsV] using this
theorem numW_of {h : EH} {i : Nat} {n : Nat} (d : Dp n h (.int i)) : numW (.int (i : Nat)) = true := by
  have := d.z.2.2 _ rfl
  show (decide ((0 : Int) ≤ (i : Nat)) && decide (((i : Nat) : Int) ≤ 10 ^ 60)) = true
  rw [decide_eq_true (by omega), decide_eq_true this]
  rfl
theorem numW_is {x : EV} (e : numW x = true) : ∃ i : Nat, x = .int i := by
  unfold numW isBt at e
  split at e
  · rename_i i
    rw [Bool.and_eq_true, decide_eq_true_eq] at e
    exact ⟨i.toNat, by rw [Int.toNat_of_nonneg e.1]⟩
  · cases e
theorem cnt_say {h : EH} : ∀ (n : Nat) (a : Say) (ins : Bool), a.dep < n → a.Good → a.okD ins = true → Dp n h a.e → jm n a.e ins = some (a.leaves.length, a.words)
  | 0, a, _, l, _, _, _ => absurd l (Nat.not_lt_zero _)
  | n + 1, .kept i j, ins, _, _, _, d => by
    have d1 := (d.2 _ rfl).2 (.int (i : Nat)) (by simp)
    have d2 := (d.2 _ rfl).2 (.int (j : Nat)) (by simp)
    show (if (numW (.int (i : Nat)) && numW (.int (j : Nat))) = true then some (1, 0) else none) = some (1, 0)
    rw [numW_of d1, numW_of d2]
    rfl
  | n + 1, .alone k i, ins, _, _, _, d => by
    have d2 := (d.2 _ rfl).2 (.int (i : Nat)) (by simp)
    show (if (ph (.str (sdN k)) && numW (.int (i : Nat))) = true then some (1, 0) else none) = some (1, 0)
    rw [side_of, numW_of d2]
    rfl
  | n + 1, .begins s, ins, _, g, o, d => by
    show (if (!ins && pY (.str s)) = true then some (1, 0) else none) = some (1, 0)
    rw [show (!ins) = true from o, scr_of g.1]
    rfl
  | n + 1, .neg p, ins, l, g, o, d => by
    have dp := (d.2 _ rfl).2 p.e (by simp)
    have := cnt_say n p true (by simp only [Say.dep] at l; omega) g o dp
    show cntN (jm n p.e true) = _
    rw [this]
    rfl
  | n + 1, .bin b p q, ins, l, g, o, d => by
    have dp := (d.2 _ rfl).2 p.e (by simp)
    have dq := (d.2 _ rfl).2 q.e (by simp)
    simp only [Say.okD, Bool.and_eq_true] at o
    simp only [Say.dep] at l
    have i1 := cnt_say n p ins (by omega) g.1 o.1 dp
    have i2 := cnt_say n q ins (by omega) g.2 o.2 dq
    have : jm (n + 1) (Say.bin b p q).e ins = cntB (jm n p.e ins) (jm n q.e ins) := by cases b <;> rfl
    rw [this, i1, i2]
    simp only [cntB, Say.leaves, Say.words, List.length_append]
theorem strB_is {w : EV} {t : List Nat} (e : mH w t = true) : w = .str t := by
  unfold mH at e
  split at e
  · rw [decide_eq_true_eq] at e; rw [e]
  · cases e
theorem cnt_is {h : EH} : ∀ (n : Nat) (v : EV) (ins : Bool) (x y : Nat), Dp n h v → jm n v ins = some (x, y) → ∃ a : Say, v = a.e ∧ a.Good ∧ a.okD ins = true ∧ a.leaves.length = x ∧ a.words = y
  | 0, v, ins, x, y, _, e => by simp [jm] at e
  | n + 1, v, ins, x, y, d, e => by
    unfold jm at e
    split at e
    · rename_i ins a1 a2 a3 m w u z em
      obtain rfl : n = m := by omega
      have du := (d.2 _ rfl).2 u (by simp)
      have dz := (d.2 _ rfl).2 z (by simp)
      split at e
      · rename_i c
        obtain rfl := strB_is c
        split at e
        · rename_i c2
          rw [Bool.and_eq_true] at c2
          obtain ⟨i, rfl⟩ := numW_is c2.1
          obtain ⟨j, rfl⟩ := numW_is c2.2
          cases e
          exact ⟨.kept i j, rfl, trivial, rfl, rfl, rfl⟩
        · cases e
      · split at e
        · rename_i c
          obtain rfl := strB_is c
          split at e
          · rename_i c2
            rw [Bool.and_eq_true] at c2
            obtain ⟨k, rfl⟩ := side_is c2.1
            obtain ⟨j, rfl⟩ := numW_is c2.2
            cases e
            exact ⟨.alone k j, rfl, trivial, rfl, rfl, rfl⟩
          · cases e
        · split at e
          · rename_i c
            have hw : ∃ b, w = .str (bnN b) := by
              rw [Bool.or_eq_true] at c
              rcases c with c | c
              · exact ⟨true, strB_is c⟩
              · exact ⟨false, strB_is c⟩
            obtain ⟨b, rfl⟩ := hw
            cases h1 : jm n u ins with
            | none => rw [h1] at e; cases e
            | some o1 =>
              cases h2 : jm n z ins with
              | none => rw [h1, h2] at e; cases e
              | some o2 =>
                rw [h1, h2] at e
                simp only [cntB, Option.some.injEq, Prod.mk.injEq] at e
                obtain ⟨p, rfl, g1, k1, l1, w1⟩ := cnt_is n u ins o1.1 o1.2 du h1
                obtain ⟨q, rfl, g2, k2, l2, w2⟩ := cnt_is n z ins o2.1 o2.2 dz h2
                refine ⟨.bin b p q, rfl, ⟨g1, g2⟩, by simp only [Say.okD, k1, k2, Bool.and_self], ?_, ?_⟩
                · simp only [Say.leaves, List.length_append]; omega
                · simp only [Say.words]; omega
          · cases e
    · rename_i ins a1 a2 a3 m w u em
      obtain rfl : n = m := by omega
      have du := (d.2 _ rfl).2 u (by simp)
      split at e
      · rename_i c
        obtain rfl := strB_is c
        split at e
        · rename_i c2
          rw [Bool.and_eq_true] at c2
          obtain ⟨s, rfl, hs⟩ := scr_is c2.2
          cases e
          exact ⟨.begins s, rfl, ⟨hs, (du.z.2.1 s rfl).1⟩, c2.1, rfl, rfl⟩
        · cases e
      · split at e
        · rename_i c
          obtain rfl := strB_is c
          cases h1 : jm n u true with
          | none => rw [h1] at e; cases e
          | some o1 =>
            rw [h1] at e
            simp only [cntN, Option.some.injEq, Prod.mk.injEq] at e
            obtain ⟨p, rfl, g1, k1, l1, w1⟩ := cnt_is n u true o1.1 o1.2 du h1
            exact ⟨.neg p, rfl, g1, k1, by simp only [Say.leaves]; omega, by simp only [Say.words]; omega⟩
        · cases e
    · cases e
theorem U.dep {F : Nat → Prop} {h : EH} : ∀ (a : Say) (n : Nat) (d : PyData), U F h n a.e d → a.dep < n
  | .kept i j, n, d, u => by obtain ⟨_, m, _, rfl, _⟩ := U.tup u; simp only [Say.dep]; omega
  | .alone k i, n, d, u => by obtain ⟨_, m, _, rfl, _⟩ := U.tup u; simp only [Say.dep]; omega
  | .begins s, n, d, u => by obtain ⟨_, m, _, rfl, _⟩ := U.tup u; simp only [Say.dep]; omega
  | .neg p, n, d, u => by
    obtain ⟨_, m, ds, rfl, _, pr⟩ := U.tup u
    obtain ⟨y, _, uy⟩ := pP pr p.e (by simp)
    have := U.dep p m y uy
    simp only [Say.dep]; omega
  | .bin b p q, n, d, u => by
    obtain ⟨_, m, ds, rfl, _, pr⟩ := U.tup u
    obtain ⟨y, _, uy⟩ := pP pr p.e (by simp)
    obtain ⟨z, _, uz⟩ := pP pr q.e (by simp)
    have h1 := U.dep p m y uy
    have h2 := U.dep q m z uz
    simp only [Say.dep]; omega
theorem says_alike {F : Nat → Prop} {h : EH} {n : Nat} {v : EV} {d : PyData} (u : U F h n v d) (dp : Dp (n + 12) h v) : cntOk (jm n v false) = (atsV v).isSome := by
  cases ha : atsV v with
  | some l =>
    obtain ⟨a, rfl, ok, rfl⟩ := atsV_is (dp.le (by omega)) ha
    rw [cnt_say n a false (U.dep a n d u) ok.g ok.ok (dp.le (by omega))]
    simp [cntOk, ok.l4, ok.w8]
  | none =>
    cases hc : jm n v false with
    | none => rfl
    | some o =>
      obtain ⟨a, rfl, g, k, l, w⟩ := cnt_is n v false o.1 o.2 (dp.le (by omega)) hc
      by_cases c : o.1 ≤ 4 ∧ o.2 ≤ 8
      · have := atsV_of ⟨g, by omega, by omega, k⟩
        rw [ha] at this
        cases this
      · show (decide (o.1 ≤ 4) && decide (o.2 ≤ 8)) = false
        rw [Bool.and_eq_false_iff, decide_eq_false_iff_not, decide_eq_false_iff_not]
        by_cases c1 : o.1 ≤ 4
        · exact .inr fun c2 => c ⟨c1, c2⟩
        · exact .inl c1
def Say.In (n m : Nat) : Say → Prop
  | .kept i j => i < n ∧ j < m
  | .alone k i => i < if k = true then m else n
  | .neg p => p.In n m
  | .bin _ p q => p.In n m ∧ q.In n m
  | .begins s => s.length ≤ 60
def Say.hasB : Say → Bool
  | .begins _ => true
  | .neg p => p.hasB
  | .bin _ p q => p.hasB || q.hasB
  | _ => false
theorem Say.okD_of {a : Say} (h : a.hasB = false) : ∀ d, a.okD d = true := by
  induction a with
  | begins s => cases h
  | neg p ih => intro d; exact ih h true
  | bin b p q h1 h2 =>
    intro d
    simp only [Say.hasB, Bool.or_eq_false_iff] at h
    simp only [Say.okD, h1 h.1 d, h2 h.2 d, Bool.and_true]
  | _ => intro d; rfl
def Say.Fit (l r : List Int) : Say → Prop
  | .begins s => allGo l r s 0 0 = true
  | .neg p => p.Fit l r
  | .bin _ p q => p.Fit l r ∧ q.Fit l r
  | _ => True
structure Drawn (a : Say) (n : Nat) (l r : List Int) : Prop where
  g : a.Good
  s : a.In l.length r.length
  f : a.Fit l r
  l : a.leaves.length ≤ n
  w : a.words ≤ 2 * n - 1
  ok : a.okD false = true
def oJ (ad : Ad) : LSp := fun evs h Q => ∃ (b : Nat) (l r : List Int), evs = [.ref b, tx l, tx r] ∧ l.length ≤ 500 ∧ r.length ≤ 500 ∧ bQ h b ∧ ∀ (a : Say) h', a.isAtom = true → a.Good → a.In l.length r.length → a.Fit l r → aP (is1 b) h h' → bQ h' b → Q a.e h'
def dC (ad : Ad) : Nat → LSp
  | 0 => fun _ _ _ => False
  | d + 1 => fun evs h Q => ∃ a : Say, evs = [a.e] ∧ a.dep ≤ d ∧ a.dep ≤ 20 ∧ ∀ h', aP no1 h h' → Q (.bl a.hasB) h'
def tZ (ad : Ad) : LSp := dC ad 12
def gG (ad : Ad) : Nat → LSp
  | 0 => fun _ _ _ => False
  | d + 1 => fun evs h Q => ∃ (b : Nat) (l r : List Int) (n : Nat), evs = [.ref b, tx l, tx r, .int n] ∧ l.length ≤ 500 ∧ r.length ≤ 500 ∧ 1 ≤ n ∧ n ≤ d + 1 ∧ n ≤ 100 ∧ bQ h b ∧ ∀ (a : Say) h', Drawn a n l r → aP (is1 b) h h' → bQ h' b → Q a.e h'
def sp__law_parts (ad : Ad) : LSp := gG ad 12
def fM (ad : Ad) : LSp := fun evs h Q => ∃ (b : Nat) (l r : List Int) (n : Nat), evs = [.ref b, tx l, tx r, .int n] ∧ l.length ≤ 500 ∧ r.length ≤ 500 ∧ 1 ≤ n ∧ n ≤ 4 ∧ bQ h b ∧ ∀ (a : Say) h', SayOk a → a.In l.length r.length → a.leaves.length ≤ n → a.words ≤ 2 * n → a.Fit l r → aP (is1 b) h h' → bQ h' b → Q a.e h'
abbrev N__law_atom : List Str := ["_law_bag_here", "_law_left", "_law_right", "_law_way", "_law_i", "_law_some", "_law_j"]
def t__law_atom_4 (ad : Ad) : LS :=
    aM (aU (aj (lC (.str [98, 101, 103, 105, 110, 115])) (aj (aA (oK ad) (aj (ao 0) (aj (ao 1) (aj (ao 2) (aj (lOp bU (lC (.int 1)) (aA (aH ad) (aj (ao 0) (aj (lC (.int 6)) (au))))) (au)))))) (au))))
def t__law_atom_3 (ad : Ad) : LS :=
    aD (aR (bR (lB (lOp gtE (ao 3) (lC (.int 3)))) (bR (lB (lOp (eqE true) (ao 1) (aU (au)))) (lB (lOp (eqE true) (ao 2) (aU (au))))))
      (aD (aY (aA (aH ad) (aj (ao 0) (aj (lCB dM (aj (ao 1) (au))) (au)))) 4) <|
    aD (aY (lLc (bW (aj (lCB dM (aj (ao 2) (au))) (au))) (.nm 6) (lB (lOp (eqE false) (lOp ixA (ao 2) (ao 6)) (lOp ixA (ao 1) (ao 4)))) (ao 6) [6]) 5) <|
    aD (aY (lIf (bR (lB (lOp (eqE true) (ao 5) (bM (au)))) (lB (lOp gtE (aA (aH ad) (aj (ao 0) (aj (lC (.int 5)) (au)))) (lC (.int 0))))) (aA (bz ad) (aj (ao 0) (aj (ao 5) (au)))) (aA (aH ad) (aj (ao 0) (aj (lCB dM (aj (ao 2) (au))) (au))))) 6) <|
    aM (aU (aj (lC (.str [107, 101, 112, 116])) (aj (ao 4) (aj (ao 6) (au))))))
      (aQ)) <| t__law_atom_4 ad
def t__law_atom_2 (ad : Ad) : LS :=
    aD (aR (bR (lB (lOp (eqE false) (ao 3) (lC (.int 1)))) (lB (lOp (eqE true) (ao 2) (aU (au)))))
      (aM (aU (aj (lC (.str [97, 108, 111, 110, 101])) (aj (lC (.str [114, 105, 103, 104, 116])) (aj (aA (aH ad) (aj (ao 0) (aj (lCB dM (aj (ao 2) (au))) (au)))) (au))))))
      (aQ)) <| t__law_atom_3 ad
def t__law_atom_1 (ad : Ad) : LS :=
    aD (aR (bR (lB (lOp (eqE false) (ao 3) (lC (.int 0)))) (lB (lOp (eqE true) (ao 1) (aU (au)))))
      (aM (aU (aj (lC (.str [97, 108, 111, 110, 101])) (aj (lC (.str [108, 101, 102, 116])) (aj (aA (aH ad) (aj (ao 0) (aj (lCB dM (aj (ao 1) (au))) (au)))) (au))))))
      (aQ)) <| t__law_atom_2 ad
def t__law_atom_0 (ad : Ad) : LS :=
    aD (aY (aA (aH ad) (aj (ao 0) (aj (lC (.int 6)) (au)))) 3) <| t__law_atom_1 ad
def t__law_atom (ad : Ad) : LS :=
    aD (aY (aA (aH ad) (aj (ao 0) (aj (lC (.int 6)) (au)))) 3) <|
    aD (aR (bR (lB (lOp (eqE false) (ao 3) (lC (.int 0)))) (lB (lOp (eqE true) (ao 1) (aU (au)))))
      (aM (aU (aj (lC (.str [97, 108, 111, 110, 101])) (aj (lC (.str [108, 101, 102, 116])) (aj (aA (aH ad) (aj (ao 0) (aj (lCB dM (aj (ao 1) (au))) (au)))) (au))))))
      (aQ)) <|
    aD (aR (bR (lB (lOp (eqE false) (ao 3) (lC (.int 1)))) (lB (lOp (eqE true) (ao 2) (aU (au)))))
      (aM (aU (aj (lC (.str [97, 108, 111, 110, 101])) (aj (lC (.str [114, 105, 103, 104, 116])) (aj (aA (aH ad) (aj (ao 0) (aj (lCB dM (aj (ao 2) (au))) (au)))) (au))))))
      (aQ)) <|
    aD (aR (bR (lB (lOp gtE (ao 3) (lC (.int 3)))) (bR (lB (lOp (eqE true) (ao 1) (aU (au)))) (lB (lOp (eqE true) (ao 2) (aU (au))))))
      (aD (aY (aA (aH ad) (aj (ao 0) (aj (lCB dM (aj (ao 1) (au))) (au)))) 4) <|
    aD (aY (lLc (bW (aj (lCB dM (aj (ao 2) (au))) (au))) (.nm 6) (lB (lOp (eqE false) (lOp ixA (ao 2) (ao 6)) (lOp ixA (ao 1) (ao 4)))) (ao 6) [6]) 5) <|
    aD (aY (lIf (bR (lB (lOp (eqE true) (ao 5) (bM (au)))) (lB (lOp gtE (aA (aH ad) (aj (ao 0) (aj (lC (.int 5)) (au)))) (lC (.int 0))))) (aA (bz ad) (aj (ao 0) (aj (ao 5) (au)))) (aA (aH ad) (aj (ao 0) (aj (lCB dM (aj (ao 2) (au))) (au))))) 6) <|
    aM (aU (aj (lC (.str [107, 101, 112, 116])) (aj (ao 4) (aj (ao 6) (au))))))
      (aQ)) <|
    aM (aU (aj (lC (.str [98, 101, 103, 105, 110, 115])) (aj (aA (oK ad) (aj (ao 0) (aj (ao 1) (aj (ao 2) (aj (lOp bU (lC (.int 1)) (aA (aH ad) (aj (ao 0) (aj (lC (.int 6)) (au))))) (au)))))) (au))))
abbrev N__law_has_begins : List Str := ["_law_saying_here", "_law_part"]
def j6 (ad : Ad) (me : LSp) : LS :=
    aD (aR (lB (lOp (inA false) (lOp ixA (ao 0) (lC (.int 0))) (aU (aj (lC (.str [107, 101, 112, 116])) (aj (lC (.str [97, 108, 111, 110, 101])) (aj (lC (.str [98, 101, 103, 105, 110, 115])) (au)))))))
      (aM (lOp (eqE false) (lOp ixA (ao 0) (lC (.int 0))) (lC (.str [98, 101, 103, 105, 110, 115]))))
      (aQ)) <|
    aM (lOp (eqE true) (lLc (lIt (lSl (ao 0) (aV (some (lC (.int 1)))) (aV none))) (.nm 1) (lT (aA me (aj (ao 1) (au)))) (ao 1) [1]) (bM (au)))
abbrev N__law_parts : List Str := ["_law_bag_here", "_law_left", "_law_right", "_law_size", "_law_atom_here", "_law_word", "_law_first", "_law_one_here"]
def t__law_parts_3 (ad : Ad) (me : LSp) : LS :=
    aM (aU (aj (ao 5) (aj (ao 7) (aj (aA me (aj (ao 0) (aj (ao 1) (aj (ao 2) (aj (lOp subE (ao 3) (ao 6)) (au)))))) (au)))))
def t__law_parts_2 (ad : Ad) (me : LSp) : LS :=
    aD (aY (aA me (aj (ao 0) (aj (ao 1) (aj (ao 2) (aj (ao 6) (au)))))) 7) <| t__law_parts_3 ad me
def t__law_parts_1 (ad : Ad) (me : LSp) : LS :=
    aD (eU 5 6 (aj (aA (bz ad) (aj (ao 0) (aj (bM (aj (lC (.str [97, 110, 100])) (aj (lC (.str [111, 114])) (au)))) (au)))) (aj (lOp bU (lC (.int 1)) (aA (aH ad) (aj (ao 0) (aj (lOp subE (ao 3) (lC (.int 1))) (au))))) (au)))) <| t__law_parts_2 ad me
def t__law_parts_0 (ad : Ad) (me : LSp) : LS :=
    aD (aR (lB (lOp ltE (ao 3) (lC (.int 2))))
      (aD (aY (aA (oJ ad) (aj (ao 0) (aj (ao 1) (aj (ao 2) (au))))) 4) <|
    aM (lIf (bR (lB (lOp (eqE true) (lOp ixA (ao 4) (lC (.int 0))) (lC (.str [98, 101, 103, 105, 110, 115])))) (lB (lOp (eqE false) (aA (aH ad) (aj (ao 0) (aj (lC (.int 4)) (au)))) (lC (.int 0))))) (aU (aj (lC (.str [110, 111, 116])) (aj (ao 4) (au)))) (ao 4)))
      (aQ)) <| t__law_parts_1 ad me
def t__law_parts (ad : Ad) (me : LSp) : LS :=
    aD (aR (lB (lOp ltE (ao 3) (lC (.int 2))))
      (aD (aY (aA (oJ ad) (aj (ao 0) (aj (ao 1) (aj (ao 2) (au))))) 4) <|
    aM (lIf (bR (lB (lOp (eqE true) (lOp ixA (ao 4) (lC (.int 0))) (lC (.str [98, 101, 103, 105, 110, 115])))) (lB (lOp (eqE false) (aA (aH ad) (aj (ao 0) (aj (lC (.int 4)) (au)))) (lC (.int 0))))) (aU (aj (lC (.str [110, 111, 116])) (aj (ao 4) (au)))) (ao 4)))
      (aQ)) <|
    aD (eU 5 6 (aj (aA (bz ad) (aj (ao 0) (aj (bM (aj (lC (.str [97, 110, 100])) (aj (lC (.str [111, 114])) (au)))) (au)))) (aj (lOp bU (lC (.int 1)) (aA (aH ad) (aj (ao 0) (aj (lOp subE (ao 3) (lC (.int 1))) (au))))) (au)))) <|
    aD (aY (aA me (aj (ao 0) (aj (ao 1) (aj (ao 2) (aj (ao 6) (au)))))) 7) <|
    aM (aU (aj (ao 5) (aj (ao 7) (aj (aA me (aj (ao 0) (aj (ao 1) (aj (ao 2) (aj (lOp subE (ao 3) (ao 6)) (au)))))) (au)))))
abbrev N__law_saying : List Str := ["_law_bag_here", "_law_left", "_law_right", "_law_size", "_law_found"]
def pG (ad : Ad) : LS :=
    aD (aY (aA (sp__law_parts ad) (aj (ao 0) (aj (ao 1) (aj (ao 2) (aj (ao 3) (au)))))) 4) <|
    aD (aR (bR (lB (lOp (eqE false) (aA (aH ad) (aj (ao 0) (aj (lC (.int 5)) (au)))) (lC (.int 0)))) (cY (lT (aA (tZ ad) (aj (ao 4) (au))))))
      (aM (aU (aj (lC (.str [110, 111, 116])) (aj (ao 4) (au)))))
      (aQ)) <|
    aM (ao 4)
theorem len__law_atom (ad : Ad) (evs : List EV) (h : EH) (Q : EK) (q : oJ ad evs h Q) : evs.length = ["_law_bag_here", "_law_left", "_law_right"].length := by
  obtain ⟨_, _, _, rfl, _⟩ := q; rfl
theorem len__law_has_begins (ad : Ad) (dd : Nat) (evs : List EV) (h : EH) (Q : EK) (q : dC ad (dd + 1) evs h Q) : evs.length = ["_law_saying_here"].length := by
  obtain ⟨_, rfl, _⟩ := q; rfl
theorem len__law_parts (ad : Ad) (dd : Nat) (evs : List EV) (h : EH) (Q : EK) (q : gG ad (dd + 1) evs h Q) : evs.length = ["_law_bag_here", "_law_left", "_law_right", "_law_size"].length := by
  obtain ⟨_, _, _, _, rfl, _⟩ := q; rfl
theorem len__law_saying (ad : Ad) (evs : List EV) (h : EH) (Q : EK) (q : fM ad evs h Q) : evs.length = ["_law_bag_here", "_law_left", "_law_right", "_law_size"].length := by
  obtain ⟨_, _, _, _, rfl, _⟩ := q; rfl
theorem eq_txe {n : Bool} {l : List Int} {h : EH} {P : EK} (p : P (.bl (n ^^ decide (l = []))) h) : eqE n (tx l) (.tup []) h P := by
  refine ⟨.tuple (l.map PyData.int), .tuple [], .tup (ints_dats l), .tup .nil, ?_⟩
  have : PyData.eqv (.tuple (l.map PyData.int)) (.tuple []) = decide (l = []) := by cases l <;> simp [PyData.eqv, PyData.eqvAll]
  rw [this]
  exact p
theorem pure__law_atom (ad : Ad) (evs : List EV) (h : EH) (Q : EK) (q : oJ ad evs h Q) : t__law_atom ad (aN Q) (bJ N__law_atom evs) h := by
  obtain ⟨b, l, r, rfl, hl, hr, B, q⟩ := q
  have sz : sizeLine = 16777216 := bu
  show t__law_atom_0 ad (aN Q) [some (.ref b), some (tx l), some (tx r), none, none, none, none] h
  unfold t__law_atom_0
  rw [aD, aY]
  simp only [aA, aj, au, lC, ao, gZ]
  refine jX 6 B rfl (by decide) (by decide) fun way h1 hw k1 B1 => ?_
  try simp only [sZ, sS]
  have last : ∀ (x4 x5 x6 : Option EV), t__law_atom_4 ad (aN Q) [some (.ref b), some (tx l), some (tx r), some (.int way), x4, x5, x6] h1 := by
    intro x4 x5 x6
    unfold t__law_atom_4
    simp only [aM, aU, aA, lOp, lC, aj, au, ao, gZ, gS]
    refine jX 6 B1 rfl (by decide) (by decide) fun n h2 hn k2 B2 => ?_
    simp only [bU]
    refine ⟨b, n + 1, l, r, by rw [Int.add_comm]; rfl, B2, by omega, fun s h3 k3 B3 sc sl go => ⟨by simp [bu], ?_⟩⟩
    exact q (.begins s) h3 rfl ⟨sc, by omega⟩ (by show s.length ≤ 60; omega) go ((k1.trans k2).trans k3) B3
  have third : ∀ (x4 x5 x6 : Option EV), t__law_atom_3 ad (aN Q) [some (.ref b), some (tx l), some (tx r), some (.int way), x4, x5, x6] h1 := by
    intro x4 x5 x6
    unfold t__law_atom_3
    rw [aD, aR]
    simp only [bR, lB, lOp, lC, aU, au, ao, gZ, gS]
    refine gtE_i ?_
    by_cases c1 : (3 : Int) < way
    · rw [decide_eq_true c1]
      simp only [if_true]
      refine ⟨by simp [bu], eq_txe ?_⟩
      by_cases c2 : l = []
      · rw [decide_eq_true c2]
        simp only [Bool.true_xor, Bool.not_true, Bool.false_eq_true, if_false]
        try refine bB ?_
        exact last _ _ _
      · rw [decide_eq_false c2]
        simp only [Bool.true_xor, Bool.not_false, if_true]
        refine ⟨by simp [bu], eq_txe ?_⟩
        by_cases c3 : r = []
        · rw [decide_eq_true c3]
          simp only [Bool.true_xor, Bool.not_true, Bool.false_eq_true, if_false]
          try refine bB ?_
          exact last _ _ _
        · rw [decide_eq_false c3]
          simp only [Bool.true_xor, Bool.not_false, if_true]
          have lp := List.length_pos_iff.mpr c2
          have rp := List.length_pos_iff.mpr c3
          rw [aD, aY]
          simp only [aA, lCB, aj, au, ao, gZ, gS, dM]
          refine jX (m := ((l.map EV.int).length : Nat)) l.length B1 (by rw [List.length_map]) lp (by omega) fun i h2 hi k2 B2 => ?_
          try simp only [sZ, sS]
          rw [aD, aY]
          simp only [lLc, bW, lCB, aj, au, ao, gZ, gS, dM, List.length_map]
          refine ⟨⟨by omega, by omega⟩, ?_⟩
          rw [show ((r.length : Nat) : Int).toNat = r.length by omega, rangeL_nat, ← List.range_eq_range']
          refine lc_keep (fun (k : Nat) => EV.int k) (fun k => if r.getD k 0 = l.getD i 0 then some (.int k) else none) (List.range r.length) (by rw [List.length_range]; omega) (fun _ _ => trivial) (fun k hk h' ky kn k' hy hn => ?_) fun h3 k3 e3 => ?_
          · refine j5 ?_
            simp only [sZ, sS, cA]
            simp only [lB, lOp, ao, gZ, gS]
            refine jE (tx_at (List.mem_range.mp hk)) (jE (tx_at hi) (rM ?_))
            by_cases c : r.getD k 0 = l.getD i 0
            · rw [decide_eq_true c]
              simp only [Bool.false_xor, if_true]
              exact hy _ (by rw [if_pos c]) h' .refl
            · rw [decide_eq_false c]
              simp only [Bool.false_xor, Bool.false_eq_true, if_false]
              exact hn (by rw [if_neg c]) h' .refl
          obtain ⟨ks, eks, hks⟩ : ∃ ks : List Nat, ((List.range r.length).filterMap fun (k : Nat) => if r.getD k 0 = l.getD i 0 then some (EV.int k) else none) = ks.map (fun (k : Nat) => EV.int k) ∧ ∀ k ∈ ks, k < r.length := by
            refine ⟨(List.range r.length).filter fun k => decide (r.getD k 0 = l.getD i 0), ?_, fun k hk => List.mem_range.mp (List.mem_filter.mp hk).1⟩
            generalize List.range r.length = rs
            induction rs with
            | nil => rfl
            | cons k rs ih =>
              rw [List.filterMap_cons, List.filter_cons]
              by_cases c : r.getD k 0 = l.getD i 0
              · rw [if_pos c, decide_eq_true c]; exact congrArg (List.cons _) ih
              · rw [if_neg c, decide_eq_false c]; exact ih
          rw [eks] at e3
          have kl : ks.length ≤ r.length := by
            have h1 := congrArg List.length eks
            rw [List.length_map] at h1
            have h2 := List.length_filterMap_le (fun (k : Nat) => if r.getD k 0 = l.getD i 0 then some (EV.int k) else none) (List.range r.length)
            rw [List.length_range] at h2
            omega
          have k13 := (k1.trans k2).trans k3.all
          have B3 := B2.keep k3
          have nr5 : h2.length ≠ b := by have := B2.lt; omega
          generalize h2.length = r5 at e3 nr5 ⊢
          try simp only [sZ, sS]
          have done : ∀ (j : Nat) h4, j < r.length → aP (is1 b) h3 h4 → bQ h4 b → ∀ y5 : Option EV, aM (aU (aj (lC (.str [107, 101, 112, 116])) (aj (ao 4) (aj (ao 6) (au))))) (aN Q) [some (.ref b), some (tx l), some (tx r), some (.int way), some (.int i), y5, some (.int j)] h4 := by
            intro j h4 hj k4 B4 y5
            simp only [aM, aU, lC, aj, au, ao, gZ, gS]
            exact ⟨by simp [bu], q (.kept i j) h4 rfl trivial ⟨by omega, by omega⟩ trivial (k13.trans k4) B4⟩
          rw [aD, aY]
          simp only [lIf, bR, lB, lOp, bM, aA, lCB, lC, aj, au, ao, gZ, gS]
          refine ⟨by simp [bu], ?_⟩
          have e3' := dW e3 [EO.lst []]
          refine eqE_nilG (ds := ks.map fun (k : Nat) => PyData.int k) e3' ?_ (by simp) bK ?_
          · clear e3 e3' kl hks eks
            induction ks with
            | nil => exact .nil
            | cons k ks ih => exact .cons (.int _) ih
          have B3' := B3.keep (aP.app [EO.lst []])
          have k34 : aP (is1 b) h3 (h3 ++ [EO.lst []]) := (aP.app _)
          generalize h3 ++ [EO.lst []] = h4 at e3' B3' k34 ⊢
          have other : ∀ h5, aP (is1 b) h3 h5 → bQ h5 b → ∀ P : EK, (∀ (j : Nat) h6, j < r.length → aP (is1 b) h3 h6 → bQ h6 b → P (.int j) h6) → aH ad [.ref b, .int ((r.map EV.int).length : Nat)] h5 P := fun h5 k5 B5 P p =>
            jX (m := ((r.map EV.int).length : Nat)) r.length B5 (by rw [List.length_map]) rp (by omega) fun j h6 hj k6 B6 => p j h6 hj (k5.trans k6) B6
          by_cases ce : ks = []
          · rw [decide_eq_true (by rw [ce]; rfl)]
            simp only [Bool.true_xor, Bool.not_true, Bool.false_eq_true, if_false, dM]
            refine other h4 k34 B3' _ fun j h6 hj k6 B6 => ?_
            try simp only [sZ, sS]
            exact done j h6 hj k6 B6 _
          · rw [decide_eq_false (by simpa using ce)]
            simp only [Bool.true_xor, Bool.not_false, if_true]
            refine jX 5 B3' rfl (by decide) (by decide) fun d h5 hd k5 B5 => gtE_i ?_
            by_cases cd : (0 : Int) < d
            · rw [decide_eq_true cd]
              simp only [if_true]
              refine ⟨b, r5, ks.map fun (k : Nat) => EV.int k, rfl, k5.other e3' nr5, by simpa using ce, by rw [List.length_map, bu]; omega, nr5, B5, fun v h6 hv k6 B6 => ?_⟩
              obtain ⟨j, hj, rfl⟩ := List.mem_map.mp hv
              try simp only [sZ, sS]
              exact done j h6 (hks j hj) ((k34.trans k5).trans k6) B6 _
            · rw [decide_eq_false cd]
              simp only [Bool.false_eq_true, if_false, dM]
              refine other h5 (k34.trans k5) B5 _ fun j h6 hj k6 B6 => ?_
              try simp only [sZ, sS]
              exact done j h6 hj k6 B6 _
    · rw [decide_eq_false c1]
      simp only [Bool.false_eq_true, if_false]
      try refine bB ?_
      exact last _ _ _
  have one : ∀ (k : Bool) (m : List Int), m.length ≤ 500 → m ≠ [] → ∀ P : EK, (∀ (i : Nat) h2, i < m.length → aP (is1 b) h1 h2 → bQ h2 b → P (.int i) h2) → aH ad [.ref b, .int ((m.map EV.int).length : Nat)] h1 P := fun k m hm hne P p =>
    jX (m := ((m.map EV.int).length : Nat)) m.length B1 (by rw [List.length_map]) (List.length_pos_iff.mpr hne) (by omega) fun i h2 hi k2 B2 => p i h2 hi k2 B2
  have second : ∀ (x4 x5 x6 : Option EV), t__law_atom_2 ad (aN Q) [some (.ref b), some (tx l), some (tx r), some (.int way), x4, x5, x6] h1 := by
    intro x4 x5 x6
    unfold t__law_atom_2
    rw [aD, aR]
    simp only [bR, lB, lOp, lC, aU, au, ao, gZ, gS]
    refine rM ?_
    by_cases c1 : (way : Int) = 1
    · rw [decide_eq_true c1]
      simp only [Bool.false_xor, if_true]
      refine ⟨by simp [bu], eq_txe ?_⟩
      by_cases c3 : r = []
      · rw [decide_eq_true c3]
        simp only [Bool.true_xor, Bool.not_true, Bool.false_eq_true, if_false]
        try refine bB ?_
        exact third _ _ _
      · rw [decide_eq_false c3]
        simp only [Bool.true_xor, Bool.not_false, if_true, aM, aU, aA, lCB, lC, aj, au, ao, gZ, gS, dM]
        refine one true r hr c3 _ fun i h2 hi k2 B2 => ⟨by simp [bu], ?_⟩
        exact q (.alone true i) h2 rfl trivial (show i < if true = true then r.length else l.length from by simpa using hi) trivial (k1.trans k2) B2
    · rw [decide_eq_false c1]
      simp only [Bool.false_xor, Bool.false_eq_true, if_false]
      try refine bB ?_
      exact third _ _ _
  unfold t__law_atom_1
  try dsimp only
  rw [aD, aR]
  simp only [bR, lB, lOp, lC, aU, au, ao, gZ, gS]
  refine rM ?_
  by_cases c1 : (way : Int) = 0
  · rw [decide_eq_true c1]
    simp only [Bool.false_xor, if_true]
    refine ⟨by simp [bu], eq_txe ?_⟩
    by_cases c3 : l = []
    · rw [decide_eq_true c3]
      simp only [Bool.true_xor, Bool.not_true, Bool.false_eq_true, if_false]
      try refine bB ?_
      exact second _ _ _
    · rw [decide_eq_false c3]
      simp only [Bool.true_xor, Bool.not_false, if_true, aM, aU, aA, lCB, lC, aj, au, ao, gZ, gS, dM]
      refine one false l hl c3 _ fun i h2 hi k2 B2 => ⟨by simp [bu], ?_⟩
      exact q (.alone false i) h2 rfl trivial (show i < if false = true then r.length else l.length from by simpa using hi) trivial (k1.trans k2) B2
  · rw [decide_eq_false c1]
    simp only [Bool.false_xor, Bool.false_eq_true, if_false]
    try refine bB ?_
    exact second _ _ _
theorem say_dats {h : EH} : ∀ l : List Say, (∀ a ∈ l, a.dep ≤ 20) → qI h 59 (l.map Say.e) (l.map Say.D)
  | [], _ => .nil
  | a :: l, ha => by
    refine .cons ?_ (say_dats l fun b hb => ha b (List.mem_cons_of_mem _ hb))
    have h1 := ha a (by simp)
    have := Say.dat (h := h) a (58 - a.dep)
    rwa [show 58 - a.dep + a.dep + 1 = 59 by omega] at this
theorem wordIn (a : Say) {h : EH} {P : EK} (p : P (.bl a.isAtom) h) : inA false (.str a.word) (.tup [.str nQ, .str jD, .str dJ]) h P := by
  refine ⟨rfl, rfl, ?_⟩
  have : inF (.str a.word) [.str nQ, .str jD, .str dJ] = a.isAtom := by
    cases a with
    | bin b p q => cases b <;> rfl
    | _ => rfl
  rw [this]
  simpa using p
def Say.parts : Say → List Say
  | .neg p => [p]
  | .bin _ p q => [p, q]
  | _ => []
theorem Say.rest_parts {a : Say} (h : a.isAtom = false) : a.rest = a.parts.map Say.e := by cases a <;> first | rfl | cases h
theorem Say.parts_dep {a : Say} : ∀ p ∈ a.parts, p.dep < a.dep := by
  intro p hp
  cases a with
  | neg q => rw [List.mem_singleton.mp hp]; simp [Say.dep]
  | bin b q r =>
    simp only [Say.dep]
    rcases List.mem_cons.mp hp with rfl | hp
    · omega
    · rw [List.mem_singleton.mp hp]; omega
  | _ => cases hp
theorem pure__law_has_begins (ad : Ad) (dd : Nat) (evs : List EV) (h : EH) (Q : EK) (q : dC ad (dd + 1) evs h Q) : j6 ad (dC ad dd) (aN Q) (bJ N__law_has_begins evs) h := by
  obtain ⟨a, rfl, hd, h20, q⟩ := q
  have sz : sizeLine = 16777216 := bu
  show j6 ad (dC ad dd) (aN Q) [some a.e, none] h
  unfold j6
  rw [aD, aR]
  simp only [lB, lOp, lC, aU, aj, au, ao, gZ]
  rw [a.e_eq]
  refine jE (x := .str a.word) at0 ⟨by simp [bu], wordIn a ?_⟩
  cases ha : a.isAtom with
  | true =>
    simp only [if_true, aM, lOp, lC, ao, gZ]
    refine jE (x := .str a.word) at0 (eq_s ?_)
    rw [wordB]
    have : a.hasB = a.isBeg := by cases a <;> first | rfl | cases ha
    rw [this] at q
    simpa using q h .refl
  | false =>
    simp only [Bool.false_eq_true, if_false]
    try refine bB ?_
    simp only [aM, lOp, lLc, lIt, lSl, aV, lC, ao, gZ, slE]
    rw [show (some (1 : Int)) = some ((1 : Nat) : Int) from rfl, qj]
    simp only [List.drop_succ_cons, List.drop_zero]
    rw [Say.rest_parts ha]
    have pl : a.parts.length ≤ 2 := by cases a <;> simp [Say.parts]
    refine lc_keep Say.e (fun p => if p.hasB = true then some p.e else none) a.parts (by omega) (fun _ _ => trivial) (fun p hp h' ky kn k' hy hn => ?_) fun h1 k1 e1 => ?_
    · refine j5 ?_
      simp only [sZ, sS, cA, lT, aA, aj, au, ao, gZ, gS]
      have lt := Say.parts_dep p hp
      obtain ⟨d, rfl⟩ : ∃ d, dd = d + 1 := ⟨dd - 1, by omega⟩
      refine ⟨p, rfl, by omega, by omega, fun h2 k2 => ?_⟩
      cases hb : p.hasB with
      | true =>
        simp only [dX, if_true]
        exact hy _ (by rw [if_pos hb]) h2 k2
      | false =>
        simp only [dX, Bool.false_eq_true, if_false]
        exact hn (by simp [hb]) h2 k2
    · simp only [bM, au]
      refine ⟨by simp [bu], ?_⟩
      have em : (a.parts.filterMap fun p => if p.hasB = true then some p.e else none) = (a.parts.filter Say.hasB).map Say.e := by
        generalize a.parts = ps
        induction ps with
        | nil => rfl
        | cons p ps ih =>
          rw [List.filterMap_cons, List.filter_cons]
          cases p.hasB
          · exact ih
          · exact congrArg (List.cons _) ih
      rw [em] at e1
      refine eqE_nilG (dW e1 _) (say_dats _ fun b hb => ?_) (by simp) bK ?_
      · have := Say.parts_dep b (List.mem_filter.mp hb).1
        omega
      · have : (true ^^ decide ((a.parts.filter Say.hasB).map Say.e = [])) = a.hasB := by
          cases a with
          | neg p => cases hb : p.hasB <;> simp [Say.parts, Say.hasB, hb]
          | bin b p u => cases hb : p.hasB <;> cases hc : u.hasB <;> simp [Say.parts, Say.hasB, hb, hc]
          | _ => cases ha
        rw [this]
        exact q _ (k1.trans (aP.app _))
theorem pure__law_parts (ad : Ad) (dd : Nat) (evs : List EV) (h : EH) (Q : EK) (q : gG ad (dd + 1) evs h Q) : t__law_parts ad (gG ad dd) (aN Q) (bJ N__law_parts evs) h := by
  obtain ⟨b, l, r, n, rfl, hl, hr, n1, nd, n100, B, q⟩ := q
  have sz : sizeLine = 16777216 := bu
  show t__law_parts_0 ad (gG ad dd) (aN Q) [some (.ref b), some (tx l), some (tx r), some (.int n), none, none, none, none] h
  unfold t__law_parts_0
  rw [aD, aR]
  simp only [lB, lOp, lC, ao, gZ, gS, ltE, eQ]
  by_cases c : n < 2
  · rw [decide_eq_true (by omega)]
    simp only [if_true]
    rw [aD, aY]
    simp only [aA, aj, au, ao, gZ, gS]
    refine ⟨b, l, r, rfl, hl, hr, B, fun a h1 ha ga sa fa k1 B1 => ?_⟩
    have e0 : a.leaves = [a] := by cases a <;> first | rfl | cases ha
    have ew : a.words = 0 := by cases a <;> first | rfl | cases ha
    have eo : a.okD false = true := by cases a <;> first | rfl | cases ha
    simp only [sZ, sS]
    simp only [aM, lIf, bR, lB, lOp, lC, ao, gZ, gS]
    have plain : ∀ h2, aP (is1 b) h h2 → bQ h2 b → Q a.e h2 := fun h2 k2 B2 => q a h2 ⟨ga, sa, fa, by rw [e0]; simp; omega, by rw [ew]; omega, eo⟩ k2 B2
    have ia : ∀ P : EK, P (.str a.word) h1 → ixA a.e (.int 0) h1 P := fun P p => by rw [a.e_eq]; exact jE at0 p
    refine ia _ (eq_s ?_)
    rw [wordB]
    cases hb : a.isBeg with
    | true =>
      simp only [Bool.true_xor, Bool.not_true, Bool.false_eq_true, if_false, ao, gZ, gS]
      exact plain h1 k1 B1
    | false =>
      simp only [Bool.true_xor, Bool.not_false, if_true, aA, lC, aj, au, ao, gZ, gS]
      refine jX 4 B1 rfl (by decide) (by decide) fun d h2 hd k2 B2 => rM ?_
      by_cases c0 : (d : Int) = 0
      · rw [decide_eq_true c0]
        simp only [Bool.false_xor, if_true, aU, lC, aj, au, ao, gZ, gS]
        refine ⟨by simp [bu], ?_⟩
        refine q (.neg a) h2 ⟨ga, sa, fa, by show a.leaves.length ≤ n; rw [e0]; simp; omega, by show a.words + 1 ≤ _; rw [ew]; omega, ?_⟩ (k1.trans k2) B2
        show a.okD true = true
        cases a with
        | begins s => cases hb
        | neg p => cases ha
        | bin c p u => cases ha
        | _ => rfl
      · rw [decide_eq_false c0]
        simp only [Bool.false_xor, Bool.false_eq_true, if_false, ao, gZ, gS]
        exact plain h2 (k1.trans k2) B2
  · rw [decide_eq_false (by omega)]
    simp only [Bool.false_eq_true, if_false]
    try refine bB ?_
    obtain ⟨d, rfl⟩ : ∃ d, dd = d + 1 := ⟨dd - 1, by omega⟩
    unfold t__law_parts_1
    try dsimp only
    rw [aD, eU]
    simp only [aA, bM, lOp, lC, aj, au, ao, gZ, gS]
    refine ⟨by simp [bu], ?_⟩
    refine one_new B (by simp) (by simp) fun v h1 hv k1 B1 => ?_
    obtain ⟨cc, rfl⟩ : ∃ cc, v = .str (bnN cc) := by
      simp only [List.mem_cons, List.not_mem_nil, or_false] at hv
      rcases hv with rfl | rfl
      · exact ⟨true, rfl⟩
      · exact ⟨false, rfl⟩
    simp only [subE, eQ]
    refine jX (n - 1) B1 (by omega) (by omega) (by omega) fun f h2 hf k2 B2 => ?_
    simp only [bU]
    try simp only [sZ, sS]
    unfold t__law_parts_2
    try dsimp only
    rw [aD, aY]
    simp only [aA, aj, au, ao, gZ, gS]
    refine ⟨b, l, r, f + 1, by rw [Int.add_comm]; rfl, hl, hr, by omega, by omega, by omega, B2, fun p h3 dp k3 B3 => ?_⟩
    try simp only [sZ, sS]
    unfold t__law_parts_3
    try dsimp only
    simp only [aM, aU, aA, lOp, aj, au, ao, gZ, gS, subE, eQ]
    refine ⟨b, l, r, n - (f + 1), by rw [show ((n : Int) - (1 + (f : Int))) = ((n - (f + 1) : Nat) : Int) by omega], hl, hr, by omega, by omega, by omega, B3, fun u h4 du k4 B4 => ⟨by simp [bu], ?_⟩⟩
    refine q (.bin cc p u) h4 ⟨⟨dp.g, du.g⟩, ⟨dp.s, du.s⟩, ⟨dp.f, du.f⟩, ?_, ?_, ?_⟩ (((k1.trans k2).trans k3).trans k4) B4
    · have := dp.l; have := du.l
      simp only [Say.leaves, List.length_append]; omega
    · have := dp.w; have := du.w
      simp only [Say.words]; omega
    · simp only [Say.okD, dp.ok, du.ok, Bool.and_true]
theorem pure__law_saying (ad : Ad) (evs : List EV) (h : EH) (Q : EK) (q : fM ad evs h Q) : pG ad (aN Q) (bJ N__law_saying evs) h := by
  obtain ⟨b, l, r, n, rfl, hl, hr, n1, n4, B, q⟩ := q
  show pG ad (aN Q) [some (.ref b), some (tx l), some (tx r), some (.int n), none] h
  unfold pG
  rw [aD, aY]
  simp only [aA, aj, au, ao, gZ, gS]
  refine (show gG ad (11 + 1) _ _ _ from ⟨b, l, r, n, rfl, hl, hr, n1, Nat.le_trans n4 (by decide), by omega, B, fun a h1 da k1 B1 => ?_⟩)
  have hl := da.l
  have hw := da.w
  simp only [sZ, sS]
  have plain : ∀ h2, aP (is1 b) h h2 → bQ h2 b → Q a.e h2 := fun h2 k2 B2 => q a h2 ⟨da.g, by omega, by omega, da.ok⟩ da.s hl (by omega) da.f k2 B2
  rw [aD, aR]
  simp only [bR, lB, lOp, aA, lC, aj, au, ao, gZ, gS]
  refine jX 5 B1 rfl (by decide) (by decide) fun d h2 hd k2 B2 => rM ?_
  by_cases c0 : (d : Int) = 0
  · rw [decide_eq_true c0]
    simp only [Bool.false_xor, if_true, cY, lT, aA, aj, au, ao, gZ, gS]
    have dw := a.dep_words
    refine (show dC ad (11 + 1) _ _ _ from ⟨a, rfl, Nat.le_trans dw (Nat.le_trans hw (Nat.le_trans (show 2 * n - 1 ≤ 11 by omega) (by decide))), by omega, fun h3 k3 => ?_⟩)
    have k13 := (k1.trans k2).trans k3.all
    have B3 := B2.keep k3
    cases hb : a.hasB with
    | true =>
      simp only [dX, Bool.not_true, Bool.false_eq_true, if_false]
      try refine bB ?_
      simp only [aM, ao, gZ, gS]
      exact plain h3 k13 B3
    | false =>
      simp only [dX, Bool.not_false, if_true, aM, aU, lC, aj, au, ao, gZ, gS]
      refine ⟨by simp [bu], ?_⟩
      exact q (.neg a) h3 ⟨da.g, by show a.leaves.length ≤ 4; omega, by show a.words + 1 ≤ 8; omega, Say.okD_of hb true⟩ da.s hl (by show a.words + 1 ≤ _; omega) da.f k13 B3
  · rw [decide_eq_false c0]
    simp only [Bool.false_xor, Bool.false_eq_true, if_false]
    try refine bB ?_
    simp only [aM, ao, gZ, gS]
    exact plain h2 (k1.trans k2) B2
def PrS0 (v : EV) : Prop := (∀ s, v = .str s → s.length ≤ 1000 ∧ ∀ c ∈ s, c < 1114112) ∧ ∀ i, v = .int i → i ≤ 10 ^ 60
def PrS : Nat → EV → Prop
  | 0, v => PrS0 v
  | n + 1, v => PrS0 v ∧ ∀ xs, v = .tup xs → ∀ x ∈ xs, PrS n x
theorem PrS.le1 : ∀ {n : Nat} {v : EV}, PrS (n + 1) v → PrS n v
  | 0, _, z => z.1
  | _ + 1, _, z => ⟨z.1, fun xs e x hx => PrS.le1 (z.2 xs e x hx)⟩
theorem PrS.le {n m : Nat} (l : n ≤ m) {v : EV} (z : PrS m v) : PrS n v := by
  induction l with
  | refl => exact z
  | step _ ih => exact ih z.le1
theorem prs0_tup {xs : List EV} : PrS0 (.tup xs) := ⟨fun s e => (by cases e), fun i e => (by cases e)⟩
theorem prs0_ref {r : Nat} : PrS0 (.ref r) := ⟨fun s e => (by cases e), fun i e => (by cases e)⟩
theorem rO {n : Nat} {s : List Nat} (hl : s.length ≤ 1000) (hc : ∀ c ∈ s, c < 1114112) : PrS n (.str s) := by
  have z : PrS0 (.str s) := ⟨fun t e => (by cases e; exact ⟨hl, hc⟩), fun i e => (by cases e)⟩
  cases n with
  | zero => exact z
  | succ n => exact ⟨z, fun xs e => (by cases e)⟩
theorem prs_int {n : Nat} {i : Int} (hi : i ≤ 10 ^ 60) : PrS n (.int i) := by
  have z : PrS0 (.int i) := ⟨fun t e => (by cases e), fun j e => (by cases e; exact hi)⟩
  cases n with
  | zero => exact z
  | succ n => exact ⟨z, fun xs e => (by cases e)⟩
theorem prs_ref {n r : Nat} : PrS n (.ref r) := by
  cases n with
  | zero => exact prs0_ref
  | succ n => exact ⟨prs0_ref, fun xs e => (by cases e)⟩
theorem pO {n : Nat} {xs : List EV} (h : ∀ x ∈ xs, PrS n x) : PrS n (.tup xs) := by
  cases n with
  | zero => exact prs0_tup
  | succ n => exact ⟨prs0_tup, fun ys e x hx => by cases e; exact (h x hx).le1⟩
theorem dp_of {F : Nat → Prop} {h : EH} : ∀ (n m : Nat) {v : EV} {d : PyData}, U F h m v d → PrS n v → Dp n h v
  | 0, m, v, d, u, p => ⟨u.kn, p⟩
  | n + 1, m, v, d, u, p => ⟨⟨u.kn, p.1⟩, fun xs e => by
      subst e
      obtain ⟨l, m', ds, rfl, rfl, pr⟩ := u.tup
      refine ⟨l, fun x hx => ?_⟩
      obtain ⟨y, _, uy⟩ := pP pr x hx
      exact dp_of n m' uy (p.2 xs rfl x hx)⟩
def V39 (F : Nat → Prop) (n k : Nat) (h : EH) (v : EV) : Prop := UV F n k h v ∧ PrS 60 v
theorem V39.keep {F : Nat → Prop} {n k : Nat} {h h' : EH} {v : EV} (z : V39 F n k h v) (kp : aP F h h') : V39 F n k h' v := ⟨z.1.keep kp, z.2⟩
theorem V39.mono {F G : Nat → Prop} {n m k j : Nat} {h : EH} {v : EV} (z : V39 F n k h v) (hg : ∀ r, G r → F r) (l1 : n ≤ m) (l2 : k ≤ j) : V39 G m j h v := ⟨z.1.mono hg l1 l2, z.2⟩
def Say.Nums : Say → Prop
  | .kept i j => i ≤ 1000 ∧ j ≤ 1000
  | .alone _ i => i ≤ 1000
  | .begins s => s.length ≤ 60
  | .neg p => p.Nums
  | .bin _ p q => p.Nums ∧ q.Nums
theorem step_lt {s : List Nat} (g : StepC s) : ∀ c ∈ s, c < 1114112 := fun c hc => by rcases g c hc with rfl | rfl | rfl <;> decide
theorem step_16 {s : List Nat} (g : StepC s) : ∀ c ∈ s, c < 16 ^ 8 := fun c hc => by rcases g c hc with rfl | rfl | rfl <;> decide
theorem nat_le60 {i : Nat} (hi : i ≤ 1000) : ((i : Nat) : Int) ≤ 10 ^ 60 := by
  have : (1000 : Int) ≤ 10 ^ 60 := by decide
  omega
theorem say_prs : ∀ (a : Say) (n : Nat), a.Good → a.Nums → PrS n a.e
  | .kept i j, n, g, m => pO fun x hx => by
      simp only [List.mem_cons, List.not_mem_nil, or_false] at hx
      rcases hx with rfl | rfl | rfl
      · exact rO (by decide) (by decide)
      · exact prs_int (nat_le60 m.1)
      · exact prs_int (nat_le60 m.2)
  | .alone k i, n, g, m => pO fun x hx => by
      simp only [List.mem_cons, List.not_mem_nil, or_false] at hx
      rcases hx with rfl | rfl | rfl
      · exact rO (by decide) (by decide)
      · cases k <;> exact rO (by decide) (by decide)
      · exact prs_int (nat_le60 m)
  | .begins s, n, g, m => pO fun x hx => by
      simp only [List.mem_cons, List.not_mem_nil, or_false] at hx
      rcases hx with rfl | rfl
      · exact rO (by decide) (by decide)
      · exact rO g.2 (step_lt g.1)
  | .neg p, n, g, m => pO fun x hx => by
      simp only [List.mem_cons, List.not_mem_nil, or_false] at hx
      rcases hx with rfl | rfl
      · exact rO (by decide) (by decide)
      · exact say_prs p n g m
  | .bin b p q, n, g, m => pO fun x hx => by
      simp only [List.mem_cons, List.not_mem_nil, or_false] at hx
      rcases hx with rfl | rfl | rfl
      · cases b <;> exact rO (by decide) (by decide)
      · exact say_prs p n g.1 m.1
      · exact say_prs q n g.2 m.2
theorem U.up {F : Nat → Prop} {h : EH} {n m : Nat} {v : EV} {d : PyData} (z : U F h n v d) (l : n ≤ m) : U F h m v d := z.le l
theorem say_u {F : Nat → Prop} {h : EH} : ∀ (a : Say), U F h (a.dep + 1) a.e a.D
  | .kept i j => .inr (.inl ⟨_, _, rfl, by simp, rfl, .cons (U.leaf rfl) (.cons (U.leaf rfl) (.cons (U.leaf rfl) .nil))⟩)
  | .alone k i => .inr (.inl ⟨_, _, rfl, by simp, rfl, .cons (U.leaf rfl) (.cons (U.leaf rfl) (.cons (U.leaf rfl) .nil))⟩)
  | .begins s => .inr (.inl ⟨_, _, rfl, by simp, rfl, .cons (U.leaf rfl) (.cons (U.leaf rfl) .nil)⟩)
  | .neg p => .inr (.inl ⟨_, _, rfl, by simp, rfl, .cons (U.leaf rfl) (.cons (say_u p) .nil)⟩)
  | .bin b p q => .inr (.inl ⟨_, _, rfl, by simp, rfl, .cons (U.leaf rfl) (.cons ((say_u p).up (by simp only [Say.dep]; omega)) (.cons ((say_u q).up (by simp only [Say.dep]; omega)) .nil))⟩)
theorem say_sh : ∀ (a : Say), a.Good → a.Nums → shB (160 * mO a) a.D
  | .kept i j, g, m => (dY.cons (sh_str (s := nQ) (by decide)) (dY.cons (sh_int (i := (i : Nat)) (by have := m.1; omega)) (dY.cons (sh_int (i := (j : Nat)) (by have := m.2; omega)) (dY.nil (k := 0))))).tup.more (show 4 + 1 + (41 + 1 + (41 + 1 + 0)) ≤ 160 * 1 by decide)
  | .alone k i, g, m => (dY.cons (sh_str (s := jD) (by decide)) (dY.cons ((sh_str (s := sdN k) (by cases k <;> decide)).more (j := 5) (by cases k <;> decide)) (dY.cons (sh_int (i := (i : Nat)) (by have : i ≤ 1000 := m; omega)) (dY.nil (k := 0))))).tup.more (show 5 + 1 + (5 + 1 + (41 + 1 + 0)) ≤ 160 * 1 by decide)
  | .begins s, g, m => (dY.cons (sh_str (s := dJ) (by decide)) (dY.cons (sh_str (s := s) (step_16 g.1)) (dY.nil (k := 0)))).tup.more (by have m : s.length ≤ 60 := m; simp only [mO]; have : dJ.length = 6 := rfl; omega)
  | .neg p, g, m => (dY.cons (sh_str (s := wNot) (by decide)) (dY.cons (say_sh p g m) (dY.nil (k := 0)))).tup.more (by simp only [mO]; have : wNot.length = 3 := rfl; omega)
  | .bin b p q, g, m => (dY.cons ((sh_str (s := bnN b) (by cases b <;> decide)).more (j := 5) (by cases b <;> decide)) (dY.cons (say_sh p g.1 m.1) (dY.cons (say_sh q g.2 m.2) (dY.nil (k := 0))))).tup.more (by simp only [mO]; omega)
theorem say_v39 {F : Nat → Prop} {h : EH} {n k : Nat} {a : Say} (g : a.Good) (m : a.Nums) (hn : a.dep + 1 ≤ n) (hk : 160 * mO a ≤ k) : V39 F n k h a.e := ⟨⟨a.D, (say_u a).up hn, (say_sh a g m).more hk⟩, say_prs a 60 g m⟩
theorem nums_in : ∀ {a : Say} {n m : Nat}, a.In n m → n ≤ 500 → m ≤ 500 → a.Nums := by
  intro a n m h hn hm
  induction a with
  | kept i j => obtain ⟨h1, h2⟩ := h; exact ⟨by omega, by omega⟩
  | alone k i => cases k <;> (have : i < _ := h; show i ≤ 1000; simp at this; omega)
  | begins s => exact h
  | neg p ih => exact ih h
  | bin b p q i1 i2 => exact ⟨i1 h.1, i2 h.2⟩
def prB0 : EV → Bool
  | .str s => decide (s.length ≤ 1000) && s.all fun c => decide (c < 1114112)
  | .int i => decide (i ≤ 10 ^ 60)
  | .non => true
  | .bl _ => true
  | .ref _ => true
  | .tup [] => true
  | _ => false
def prB : Nat → EV → Bool
  | n + 1, .tup xs => xs.all (prB n)
  | _, v => prB0 v
theorem prB0_ok {v : EV} (e : prB0 v = true) : ∀ m, PrS m v := by
  intro m
  cases v with
  | str s =>
    simp only [prB0, Bool.and_eq_true, decide_eq_true_eq, List.all_eq_true] at e
    exact rO e.1 e.2
  | int i =>
    simp only [prB0, decide_eq_true_eq] at e
    exact prs_int e
  | ref r => exact prs_ref
  | tup xs => cases xs with
    | nil => exact pO (by simp)
    | cons x xs => cases e
  | non =>
    cases m with
    | zero => exact ⟨fun s e => (by cases e), fun i e => (by cases e)⟩
    | succ m => exact ⟨⟨fun s e => (by cases e), fun i e => (by cases e)⟩, fun xs e => (by cases e)⟩
  | bl b =>
    cases m with
    | zero => exact ⟨fun s e => (by cases e), fun i e => (by cases e)⟩
    | succ m => exact ⟨⟨fun s e => (by cases e), fun i e => (by cases e)⟩, fun xs e => (by cases e)⟩
  | _ => cases e
theorem prB_ok : ∀ {n : Nat} {v : EV}, prB n v = true → ∀ m, PrS m v
  | 0, v, e, m => prB0_ok (by cases v <;> exact e) m
  | n + 1, v, e, m => by
    cases v with
    | tup xs =>
      rw [prB, List.all_eq_true] at e
      exact pO fun x hx => prB_ok (e x hx) m
    | _ => exact prB0_ok e m
theorem v39_pl {F : Nat → Prop} {h : EH} {xs : List EV} (e : xs.all (plB 300) = true) (p : xs.all (prB 2) = true) : ∀ y ∈ xs, V39 F 3 300 h y := fun y hy => ⟨plB_uv (List.all_eq_true.mp e y hy), prB_ok (List.all_eq_true.mp p y hy) 60⟩
theorem v39_1 {F : Nat → Prop} {h : EH} {y : EV} (e : plB 300 y = true) (p : prB 2 y = true) : V39 F 3 300 h y := ⟨plB_uv e, prB_ok p 60⟩
def cX (ad : Ad) : LSp := fun evs h Q => evs = [] ∧ ∀ r ys h', aP no1 h h' → h.length ≤ r → h'[r]? = some (.lst ys) → ys ≠ [] → ys.length ≤ 100 → (∀ y ∈ ys, V39 (fun r => r < h.length) 3 300 h' y) → Q (.ref r) h'
abbrev N__law_odd_values : List Str := ["_law_plain"]
def rD (ad : Ad) : LS :=
    aM (lOp bU (ao 0) (bM (aj (aU (au)) (aj (bM (au)) (aj (aU (aj (lC (.int 0)) (au))) (aj (bM (aj (lC (.int 0)) (aj (lC (.int 0)) (au)))) (aj (lDnew) (aj (lDisp [((lC (.int 0)), (lC (.int 1)))]) (au)))))))))
def qY (ad : Ad) : LS :=
    aD (aY (lOp bU (ao 0) (bM (aj (lC (.str [110, 111, 116])) (aj (lC (.str [97, 108, 111, 110, 101])) (aj (lC (.str [107, 101, 112, 116])) (aj (aU (aj (lC (.str [107, 101, 112, 116])) (aj (lC (.int 0)) (aj (lC (.int 1)) (au))))) (aj (bM (aj (lC (.str [107, 101, 112, 116])) (aj (lC (.int 0)) (aj (lC (.int 1)) (au))))) (aj (aU (aj (lC (.str [110, 111, 116])) (au))) (au))))))))) 0) <| rD ad
def rB (ad : Ad) : LS :=
    aD (aY (bM (aj (lC .non) (aj (lC (.bl true)) (aj (lC (.bl false)) (aj (lOp subE (lC (.int 0)) (lC (.int 1))) (aj (lC (.int 0)) (aj (lC (.int 1)) (aj (lOp powE (lC (.int 10)) (lC (.int 39))) (aj (lOp subE (lC (.int 0)) (lOp powE (lC (.int 10)) (lC (.int 30)))) (aj (lC (.str [])) (aj (lC (.str [107])) (aj (lC (.str [107, 100, 120])) (aj (lC (.str [75])) (aj (lC (.str [32])) (aj (lC (.str [108, 101, 102, 116])) (aj (lC (.str [117, 112])) (aj (lC (.str [76, 101, 102, 116])) (au)))))))))))))))))) 0) <| qY ad
def t__law_odd_values (ad : Ad) : LS :=
    aD (aY (bM (aj (lC .non) (aj (lC (.bl true)) (aj (lC (.bl false)) (aj (lOp subE (lC (.int 0)) (lC (.int 1))) (aj (lC (.int 0)) (aj (lC (.int 1)) (aj (lOp powE (lC (.int 10)) (lC (.int 39))) (aj (lOp subE (lC (.int 0)) (lOp powE (lC (.int 10)) (lC (.int 30)))) (aj (lC (.str [])) (aj (lC (.str [107])) (aj (lC (.str [107, 100, 120])) (aj (lC (.str [75])) (aj (lC (.str [32])) (aj (lC (.str [108, 101, 102, 116])) (aj (lC (.str [117, 112])) (aj (lC (.str [76, 101, 102, 116])) (au)))))))))))))))))) 0) <|
    aD (aY (lOp bU (ao 0) (bM (aj (lC (.str [110, 111, 116])) (aj (lC (.str [97, 108, 111, 110, 101])) (aj (lC (.str [107, 101, 112, 116])) (aj (aU (aj (lC (.str [107, 101, 112, 116])) (aj (lC (.int 0)) (aj (lC (.int 1)) (au))))) (aj (bM (aj (lC (.str [107, 101, 112, 116])) (aj (lC (.int 0)) (aj (lC (.int 1)) (au))))) (aj (aU (aj (lC (.str [110, 111, 116])) (au))) (au))))))))) 0) <|
    aM (lOp bU (ao 0) (bM (aj (aU (au)) (aj (bM (au)) (aj (aU (aj (lC (.int 0)) (au))) (aj (bM (aj (lC (.int 0)) (aj (lC (.int 0)) (au)))) (aj (lDnew) (aj (lDisp [((lC (.int 0)), (lC (.int 1)))]) (au)))))))))
theorem len__law_odd_values (ad : Ad) (evs : List EV) (h : EH) (Q : EK) (q : cX ad evs h Q) : evs.length = ([] : List String).length := by
  obtain ⟨rfl, _⟩ := q; rfl
theorem pure__law_odd_values (ad : Ad) (evs : List EV) (h : EH) (Q : EK) (q : cX ad evs h Q) : t__law_odd_values ad (aN Q) (bJ N__law_odd_values evs) h := by
  obtain ⟨rfl, q⟩ := q
  have sz : sizeLine = 16777216 := bu
  show rB ad (aN Q) [none] h
  let F : Nat → Prop := fun r => r < h.length
  have fr : ∀ r, h.length ≤ r → ¬ F r := fun r l z => by have z : r < h.length := z; omega
  have step : ∀ (r1 : Nat) (L1 L2 : List EV) (h1 : EH) (P : EK), aP no1 h h1 → h1[r1]? = some (.lst L1) → L1.length ≤ 80 → L2.length ≤ 20 → (∀ y ∈ L1, V39 F 3 300 h1 y) → (∀ y ∈ L2, V39 F 3 300 h1 y) →
      (∀ (r2 : Nat) (h2 : EH), aP no1 h h2 → h.length ≤ r2 → h2[r2]? = some (.lst (L1 ++ L2)) → (∀ y ∈ L1 ++ L2, V39 F 3 300 h2 y) → P (.ref r2) h2) →
      bU (.ref r1) (.ref h1.length) (h1 ++ [EO.lst L2]) P := by
    intro r1 L1 L2 h1 P k1 e1 l1 l2 u1 u2 p
    have l01 := k1.1
    refine add_l (dW e1 _) bK (by omega) (p _ _ (k1.trans ((aP.app _).trans (aP.app _))) (by rw [List.length_append]; omega) bK fun y hy => ?_)
    have kk : aP F h1 (h1 ++ [EO.lst L2] ++ [EO.lst (L1 ++ L2)]) := (aP.app _).trans (aP.app _)
    rcases List.mem_append.mp hy with hy | hy
    · exact (u1 y hy).keep kk
    · exact (u2 y hy).keep kk
  unfold rB
  rw [aD, aY]
  simp only [bM, aj, au, lC, jc, lOp]
  refine sub_i ?_
  refine pow_i (by unfold CPow; decide) ?_
  refine pow_i (by unfold CPow; decide) ?_
  refine sub_i ?_
  try dsimp only
  refine ⟨by simp [bu], ?_⟩
  have start : ∃ L1 : List EV, L1.length = 16 ∧ (∀ y ∈ L1, V39 F 3 300 (h ++ [EO.lst L1]) y) ∧ L1 = [EV.non, EV.bl true, EV.bl false, EV.int (0 - 1), EV.int 0, EV.int 1, EV.int (10 ^ Int.toNat 39), EV.int (0 - 10 ^ Int.toNat 30), EV.str [], EV.str [107], EV.str [107, 100, 120], EV.str [75], EV.str [32], EV.str [108, 101, 102, 116], EV.str [117, 112], EV.str [76, 101, 102, 116]] := ⟨_, rfl, v39_pl (by decide +kernel) (by decide +kernel), rfl⟩
  obtain ⟨L1, l1, u1, e1⟩ := start
  rw [← e1]
  have n1 : (h ++ [EO.lst L1])[h.length]? = some (.lst L1) := bK
  have k1 : aP no1 h (h ++ [EO.lst L1]) := aP.app _
  generalize (h ++ [EO.lst L1]) = h1 at u1 n1 k1 ⊢
  generalize hr1 : h.length = r1 at n1 ⊢
  clear e1
  simp only [sZ]
  unfold qY
  try dsimp only
  rw [aD, aY]
  simp only [lOp, ao, bM, aU, aj, au, lC, gZ]
  refine ⟨by simp [bu], by simp [bu], by simp [bu], by simp [bu], ?_⟩
  have k2 : aP no1 h1 (h1 ++ [EO.lst [EV.str [107, 101, 112, 116], .int 0, .int 1]]) := aP.app _
  have f1 : (h1 ++ [EO.lst [EV.str [107, 101, 112, 116], .int 0, .int 1]])[h1.length]? = some (.lst [EV.str [107, 101, 112, 116], .int 0, .int 1]) := bK
  have m1 : ¬ F h1.length := fr _ k1.1
  generalize h1.length = a1 at f1 m1 ⊢
  generalize (h1 ++ [EO.lst [EV.str [107, 101, 112, 116], .int 0, .int 1]]) = h2 at k2 f1 ⊢
  have L2u : ∀ y ∈ [EV.str [110, 111, 116], .str [97, 108, 111, 110, 101], .str [107, 101, 112, 116], .tup [.str [107, 101, 112, 116], .int 0, .int 1], .ref a1, .tup [.str [110, 111, 116]]], V39 F 3 300 h2 y := by
    intro y hy
    simp only [List.mem_cons, List.not_mem_nil, or_false] at hy
    rcases hy with rfl | rfl | rfl | rfl | rfl | rfl
    · exact v39_1 (by decide +kernel) (by decide +kernel)
    · exact v39_1 (by decide +kernel) (by decide +kernel)
    · exact v39_1 (by decide +kernel) (by decide +kernel)
    · exact v39_1 (by decide +kernel) (by decide +kernel)
    · exact ⟨uv_lst f1 m1 rfl ⟨by decide +kernel, by decide +kernel, by decide +kernel⟩, prs_ref⟩
    · exact v39_1 (by decide +kernel) (by decide +kernel)
  refine step r1 L1 _ h2 _ (k1.trans k2) (k2.at n1) (by omega) (by simp) (fun y hy => (u1 y hy).keep k2.all) L2u fun r3 h3 k3 lr3 n3 u3 => ?_
  have l3 : (L1 ++ [EV.str [110, 111, 116], .str [97, 108, 111, 110, 101], .str [107, 101, 112, 116], .tup [.str [107, 101, 112, 116], .int 0, .int 1], .ref a1, .tup [.str [110, 111, 116]]]).length = 22 := by rw [List.length_append, l1]; rfl
  generalize L1 ++ [EV.str [110, 111, 116], .str [97, 108, 111, 110, 101], .str [107, 101, 112, 116], .tup [.str [107, 101, 112, 116], .int 0, .int 1], .ref a1, .tup [.str [110, 111, 116]]] = L3 at l3 n3 u3
  simp only [sZ]
  unfold rD
  simp only [aM, lOp, ao, bM, aU, lDnew, lDisp, lPairs, aj, au, lC, gZ]
  refine ⟨by simp [bu], by simp [bu], by simp [bu], by simp [bu], bK, fun p hp => by rw [List.mem_singleton.mp hp]; trivial, by decide, ?_⟩
  rw [new_set]
  refine ⟨by simp [bu], ?_⟩
  have k4 : aP no1 h3 (h3 ++ [EO.lst []] ++ [EO.lst [EV.int 0, EV.int 0]] ++ [EO.dic []] ++ [EO.dic (dAll [(EV.int 0, EV.int 1)])]) := (((aP.app _).trans (aP.app _)).trans (aP.app _)).trans (aP.app _)
  have g1 : (h3 ++ [EO.lst []] ++ [EO.lst [EV.int 0, EV.int 0]] ++ [EO.dic []] ++ [EO.dic (dAll [(EV.int 0, EV.int 1)])])[h3.length]? = some (.lst []) := dW (dW (dW bK _) _) _
  have g2 : (h3 ++ [EO.lst []] ++ [EO.lst [EV.int 0, EV.int 0]] ++ [EO.dic []] ++ [EO.dic (dAll [(EV.int 0, EV.int 1)])])[(h3 ++ [EO.lst []]).length]? = some (.lst [.int 0, .int 0]) := dW (dW bK _) _
  have g3 : (h3 ++ [EO.lst []] ++ [EO.lst [EV.int 0, EV.int 0]] ++ [EO.dic []] ++ [EO.dic (dAll [(EV.int 0, EV.int 1)])])[(h3 ++ [EO.lst []] ++ [EO.lst [EV.int 0, EV.int 0]]).length]? = some (.dic []) := dW bK _
  have g4 : (h3 ++ [EO.lst []] ++ [EO.lst [EV.int 0, EV.int 0]] ++ [EO.dic []] ++ [EO.dic (dAll [(EV.int 0, EV.int 1)])])[(h3 ++ [EO.lst []] ++ [EO.lst [EV.int 0, EV.int 0]] ++ [EO.dic []]).length]? = some (.dic (dAll [(EV.int 0, EV.int 1)])) := bK
  have b1 : ¬ F h3.length := fr _ k3.1
  have b2 : ¬ F (h3 ++ [EO.lst []]).length := fr _ (by have := k3.1; rw [List.length_append]; omega)
  have b3 : ¬ F (h3 ++ [EO.lst []] ++ [EO.lst [EV.int 0, EV.int 0]]).length := fr _ (by have := k3.1; rw [List.length_append, List.length_append]; omega)
  have b4 : ¬ F (h3 ++ [EO.lst []] ++ [EO.lst [EV.int 0, EV.int 0]] ++ [EO.dic []]).length := fr _ (by have := k3.1; rw [List.length_append, List.length_append, List.length_append]; omega)
  generalize h3.length = c1 at g1 b1 ⊢
  generalize (h3 ++ [EO.lst []]).length = c2 at g2 b2 ⊢
  generalize (h3 ++ [EO.lst []] ++ [EO.lst [EV.int 0, EV.int 0]]).length = c3 at g3 b3 ⊢
  generalize (h3 ++ [EO.lst []] ++ [EO.lst [EV.int 0, EV.int 0]] ++ [EO.dic []]).length = c4 at g4 b4 ⊢
  generalize (h3 ++ [EO.lst []] ++ [EO.lst [EV.int 0, EV.int 0]] ++ [EO.dic []] ++ [EO.dic (dAll [(EV.int 0, EV.int 1)])]) = h4 at k4 g1 g2 g3 g4 ⊢
  have L4u : ∀ y ∈ [EV.tup [], .ref c1, .tup [.int 0], .ref c2, .ref c3, .ref c4], V39 F 3 300 h4 y := by
    intro y hy
    simp only [List.mem_cons, List.not_mem_nil, or_false] at hy
    rcases hy with rfl | rfl | rfl | rfl | rfl | rfl
    · exact v39_1 (by decide +kernel) (by decide +kernel)
    · exact ⟨uv_lst g1 b1 rfl ⟨by decide +kernel, by decide +kernel, by decide +kernel⟩, prs_ref⟩
    · exact v39_1 (by decide +kernel) (by decide +kernel)
    · exact ⟨uv_lst g2 b2 rfl ⟨by decide +kernel, by decide +kernel, by decide +kernel⟩, prs_ref⟩
    · exact ⟨uv_dic (ps := []) g3 b3 .nil ⟨by decide +kernel, by decide +kernel, by decide +kernel⟩, prs_ref⟩
    · exact ⟨uv_dic (ps := [(.inl 0, .int 1)]) g4 b4 (.cons ⟨rfl, U.leaf rfl⟩ .nil) ⟨by decide +kernel, by decide +kernel, by decide +kernel⟩, prs_ref⟩
  refine step r3 L3 _ h4 _ (k3.trans k4) (k4.at n3) (by omega) (by simp) (fun y hy => (u3 y hy).keep k4.all) L4u fun r5 h5 k5 lr5 n5 u5 => ?_
  exact q r5 _ h5 k5 lr5 n5 (by simp) (by rw [List.length_append, l3]; simp) u5
def kB (S d : Nat) : Nat := 160 * S * (d + 2) + 400 * (d + 1)
def bZ (ad : Ad) : Nat → LSp
  | 0 => fun _ _ _ => False
  | dd + 1 => fun evs h Q => ∃ (b : Nat) (a : Say) (S : Nat) (F : Nat → Prop), evs = [.ref b, a.e] ∧ a.dep ≤ dd ∧ a.dep ≤ 10 ∧ bQ h b ∧ F b ∧ (∀ r, F r → r < h.length) ∧ a.Good ∧ a.Nums ∧ mO a ≤ S ∧
    ∀ u h', V39 F (a.dep + 5) (kB S a.dep) h' u → aP (is1 b) h h' → bQ h' b → Q u h'
def lZ (ad : Ad) : LSp := bZ ad 12
abbrev N__law_bent_saying : List Str := ["_law_bag_here", "_law_saying_here", "_law_places", "_law_at", "_law_way", "_law_odd", "_law_k"]
def qd (ad : Ad) (me : LSp) : LS :=
    aM (lOp bU (lOp bU (lSl (ao 1) (aV none) (aV (some (ao 3)))) (aU (aj (ao 5) (au)))) (lSl (ao 1) (aV (some (lOp bU (ao 3) (lC (.int 1))))) (aV none)))
def qp (ad : Ad) (me : LSp) : LS :=
    aD (aR (lB (lOp (eqE false) (ao 4) (lC (.int 4))))
      (aM (lOp bU (ao 1) (aU (aj (ao 5) (au)))))
      (aQ)) <| qd ad me
def pW (ad : Ad) (me : LSp) : LS :=
    aD (aR (lB (lOp (eqE false) (ao 4) (lC (.int 3))))
      (aM (aU (aj (lC (.str [110, 111, 116])) (aj (ao 1) (au)))))
      (aQ)) <| qp ad me
def qL (ad : Ad) (me : LSp) : LS :=
    aD (aR (lB (lOp (eqE false) (ao 4) (lC (.int 2))))
      (aM (lOp bU (lOp bU (lSl (ao 1) (aV none) (aV (some (ao 3)))) (aU (aj (lOp ixA (ao 1) (ao 3)) (au)))) (lSl (ao 1) (aV (some (ao 3))) (aV none))))
      (aQ)) <| pW ad me
def pX (ad : Ad) (me : LSp) : LS :=
    aD (aR (lB (lOp (eqE false) (ao 4) (lC (.int 1))))
      (aM (lOp bU (lSl (ao 1) (aV none) (aV (some (ao 3)))) (lSl (ao 1) (aV (some (lOp bU (ao 3) (lC (.int 1))))) (aV none))))
      (aQ)) <| qL ad me
def qu (ad : Ad) (me : LSp) : LS :=
    aD (aR (lB (lOp (eqE false) (ao 4) (lC (.int 0))))
      (aM (lCB listOf (aj (ao 1) (au))))
      (aQ)) <| pX ad me
def lK (ad : Ad) (me : LSp) : LS :=
    aD (lPar3 4 3 5 (aj (aA (aH ad) (aj (ao 0) (aj (lC (.int 7)) (au)))) (aj (aA (aH ad) (aj (ao 0) (aj (lCB dM (aj (ao 1) (au))) (au)))) (aj (aA (bz ad) (aj (ao 0) (aj (aA (cX ad) au) (au)))) (au))))) <| qu ad me
def ql (ad : Ad) (me : LSp) : LS :=
    aD (aR (bR (lB (lOp (eqE true) (ao 2) (bM (au)))) (lB (lOp gtE (aA (aH ad) (aj (ao 0) (aj (lC (.int 3)) (au)))) (lC (.int 0)))))
      (aD (aY (aA (bz ad) (aj (ao 0) (aj (ao 2) (au)))) 3) <|
    aM (lOp bU (lOp bU (lSl (ao 1) (aV none) (aV (some (ao 3)))) (aU (aj (aA me (aj (ao 0) (aj (lOp ixA (ao 1) (ao 3)) (au)))) (au)))) (lSl (ao 1) (aV (some (lOp bU (ao 3) (lC (.int 1))))) (aV none))))
      (aQ)) <| lK ad me
def qD (ad : Ad) (me : LSp) : LS :=
    aD (aY (lLc (dh (aj (lC (.int 1)) (aj (lCB dM (aj (ao 1) (au))) (au)))) (.nm 6) (lT (lCB sE (aj (lOp ixA (ao 1) (ao 6)) (aj (lC (.ty "tuple")) (au))))) (ao 6) [6]) 2) <| ql ad me
def tE (ad : Ad) (me : LSp) : LS :=
    aD (aY (lLc (dh (aj (lC (.int 1)) (aj (lCB dM (aj (ao 1) (au))) (au)))) (.nm 6) (lT (lCB sE (aj (lOp ixA (ao 1) (ao 6)) (aj (lC (.ty "tuple")) (au))))) (ao 6) [6]) 2) <|
    aD (aR (bR (lB (lOp (eqE true) (ao 2) (bM (au)))) (lB (lOp gtE (aA (aH ad) (aj (ao 0) (aj (lC (.int 3)) (au)))) (lC (.int 0)))))
      (aD (aY (aA (bz ad) (aj (ao 0) (aj (ao 2) (au)))) 3) <|
    aM (lOp bU (lOp bU (lSl (ao 1) (aV none) (aV (some (ao 3)))) (aU (aj (aA me (aj (ao 0) (aj (lOp ixA (ao 1) (ao 3)) (au)))) (au)))) (lSl (ao 1) (aV (some (lOp bU (ao 3) (lC (.int 1))))) (aV none))))
      (aQ)) <|
    aD (lPar3 4 3 5 (aj (aA (aH ad) (aj (ao 0) (aj (lC (.int 7)) (au)))) (aj (aA (aH ad) (aj (ao 0) (aj (lCB dM (aj (ao 1) (au))) (au)))) (aj (aA (bz ad) (aj (ao 0) (aj (aA (cX ad) au) (au)))) (au))))) <|
    aD (aR (lB (lOp (eqE false) (ao 4) (lC (.int 0))))
      (aM (lCB listOf (aj (ao 1) (au))))
      (aQ)) <|
    aD (aR (lB (lOp (eqE false) (ao 4) (lC (.int 1))))
      (aM (lOp bU (lSl (ao 1) (aV none) (aV (some (ao 3)))) (lSl (ao 1) (aV (some (lOp bU (ao 3) (lC (.int 1))))) (aV none))))
      (aQ)) <|
    aD (aR (lB (lOp (eqE false) (ao 4) (lC (.int 2))))
      (aM (lOp bU (lOp bU (lSl (ao 1) (aV none) (aV (some (ao 3)))) (aU (aj (lOp ixA (ao 1) (ao 3)) (au)))) (lSl (ao 1) (aV (some (ao 3))) (aV none))))
      (aQ)) <|
    aD (aR (lB (lOp (eqE false) (ao 4) (lC (.int 3))))
      (aM (aU (aj (lC (.str [110, 111, 116])) (aj (ao 1) (au)))))
      (aQ)) <|
    aD (aR (lB (lOp (eqE false) (ao 4) (lC (.int 4))))
      (aM (lOp bU (ao 1) (aU (aj (ao 5) (au)))))
      (aQ)) <|
    aM (lOp bU (lOp bU (lSl (ao 1) (aV none) (aV (some (ao 3)))) (aU (aj (ao 5) (au)))) (lSl (ao 1) (aV (some (lOp bU (ao 3) (lC (.int 1))))) (aV none)))
theorem len__law_bent_saying (ad : Ad) (dd : Nat) (evs : List EV) (h : EH) (Q : EK) (q : bZ ad (dd + 1) evs h Q) : evs.length = ["_law_bag_here", "_law_saying_here"].length := by
  obtain ⟨_, _, _, _, rfl, _⟩ := q; rfl
theorem oddly {ad : Ad} {h : EH} {b n k : Nat} {F : Nat → Prop} {P : EK} (B : bQ h b) (hF : ∀ r, F r → r < h.length) (hn : 3 ≤ n) (hk : 300 ≤ k) (p : ∀ u h', V39 F n k h' u → aP (is1 b) h h' → bQ h' b → P u h') : cX ad [] h fun x h' => bz ad [.ref b, x] h' P := by
  refine ⟨rfl, fun r ys h1 k1 lr e ne hl uv => ?_⟩
  have hb := B.lt
  refine ⟨b, r, ys, rfl, e, ne, by rw [bu]; omega, by omega, B.keep k1, fun x h2 hx k2 B2 => p x h2 ?_ (k1.all.trans k2) B2⟩
  exact ((uv x hx).keep (k2.of1 (F := fun r => r < h.length) hb)).mono hF hn hk
def tupAt (a : Say) : List Nat := match a with
  | .neg _ => [1]
  | .bin _ _ _ => [1, 2]
  | _ => []
def itms (a : Say) : List EV := .str a.word :: a.rest
def isTupE : EV → Bool
  | .tup _ => true
  | _ => false
def pickT (a : Say) (x : EV) : Option EV := match x with
  | .int i => if isTupE ((itms a)[i.toNat]?.getD .non) = true then some x else none
  | _ => none
theorem say_isT (a : Say) : isTupE a.e = true := by rw [a.e_eq]; rfl
theorem pick_all (a : Say) : (lG 1 ((itms a).length - 1)).filterMap (pickT a) = (tupAt a).map fun (k : Nat) => EV.int k := by
  cases a with
  | neg p =>
    rw [show lG 1 ((itms (.neg p)).length - 1) = [EV.int 1] from rfl]
    simp [pickT, itms, Say.rest, say_isT, tupAt]
  | bin b p q =>
    rw [show lG 1 ((itms (.bin b p q)).length - 1) = [EV.int 1, EV.int 2] from rfl]
    simp [pickT, itms, Say.rest, say_isT, tupAt]
  | kept i j => rfl
  | alone k i => rfl
  | begins s => rfl
theorem range_mem {n : Nat} {x : EV} (h : x ∈ lG 1 n) : ∃ i : Nat, x = .int (i : Nat) ∧ i ≤ n := by
  obtain ⟨k, hk, rfl⟩ := List.mem_map.mp h
  exact ⟨k + 1, by congr 1; omega, by have := List.mem_range.mp hk; omega⟩
theorem part_at {a : Say} {i : Nat} (h : i ∈ tupAt a) : ∃ p : Say, (itms a)[i]? = some p.e ∧ p.dep < a.dep ∧ (a.Good → p.Good) ∧ (a.Nums → p.Nums) ∧ mO p ≤ mO a := by
  cases a with
  | neg p =>
    rw [List.mem_singleton.mp h]
    exact ⟨p, rfl, by simp [Say.dep], fun g => g, fun g => g, by simp [mO]⟩
  | bin b p q =>
    rcases List.mem_cons.mp h with rfl | h
    · exact ⟨p, rfl, by simp only [Say.dep]; omega, fun g => g.1, fun g => g.1, by simp only [mO]; omega⟩
    · rw [List.mem_singleton.mp h]
      exact ⟨q, rfl, by simp only [Say.dep]; omega, fun g => g.2, fun g => g.2, by simp only [mO]; omega⟩
  | _ => cases h
theorem itms_len (a : Say) : (itms a).length ≤ 3 ∧ 0 < (itms a).length := by cases a <;> simp [itms, Say.rest]
theorem itms_vs {F : Nat → Prop} {h : EH} {a : Say} (g : a.Good) (m : a.Nums) : ∃ k, k ≤ 160 * mO a ∧ UVs F a.dep k h (itms a) ∧ ∀ x ∈ itms a, PrS 60 x := by
  have u := say_v39 (F := F) (h := h) (n := a.dep + 1) (k := 160 * mO a) g m (Nat.le_refl _) (Nat.le_refl _)
  rw [a.e_eq] at u
  obtain ⟨j, e, us⟩ := u.1.items
  obtain rfl : j = a.dep := by omega
  refine ⟨_, Nat.le_refl _, us, fun x hx => ?_⟩
  have := (say_prs a 61 g m)
  rw [a.e_eq] at this
  exact this.2 _ rfl x hx
theorem UVs.up {F : Nat → Prop} {n m k : Nat} {h : EH} {xs : List EV} (z : UVs F n k h xs) (l : n ≤ m) : UVs F m k h xs := let ⟨d, u, s⟩ := z; ⟨d, mY (fun _ _ u => u.le l) u, s⟩
theorem kB_sub {S d e c n : Nat} (l : e < d) (hc : c ≤ 160 * S) (hn : n ≤ kB S e) : c + 1 + n + 2 ≤ kB S d := by
  unfold kB at *
  have h1 : 160 * S * (e + 2) + 160 * S ≤ 160 * S * (d + 2) := by
    rw [← Nat.mul_succ]
    exact Nat.mul_le_mul_left _ (by omega)
  omega
theorem kB_ge {S d : Nat} : 320 * S + 400 ≤ kB S d := by
  unfold kB
  have : 160 * S * 2 ≤ 160 * S * (d + 2) := Nat.mul_le_mul_left _ (by omega)
  omega
theorem pure__law_bent_saying (ad : Ad) (dd : Nat) (evs : List EV) (h : EH) (Q : EK) (q : bZ ad (dd + 1) evs h Q) : tE ad (bZ ad dd) (aN Q) (bJ N__law_bent_saying evs) h := by
  obtain ⟨b, a, S, F, rfl, hd, h10, B, fb, hF, g, m, hs, q⟩ := q
  have sz : sizeLine = 16777216 := bu
  have hge := kB_ge (S := S) (d := a.dep)
  obtain ⟨l3, l0⟩ := itms_len a
  obtain ⟨k0, hk0, us, ps⟩ := itms_vs (F := F) (h := h) g m
  have ea : a.e = .tup (itms a) := a.e_eq
  have hk1 : k0 ≤ 160 * S := Nat.le_trans hk0 (Nat.mul_le_mul_left _ hs)
  show qD ad (bZ ad dd) (aN Q) [some (.ref b), some a.e, none, none, none, none, none] h
  rw [ea]
  unfold qD
  rw [aD, aY]
  simp only [lLc, dh, lCB, lC, aj, au, ao, gZ, gS, dM]
  refine ⟨⟨by decide, by decide, by omega, by omega⟩, ?_⟩
  rw [show (((itms a).length : Nat) - 1 : Int).toNat = (itms a).length - 1 by omega]
  refine lc_keepI (pickT a) (lG 1 ((itms a).length - 1)) (by simp [lG]; omega) (fun _ _ => trivial) (fun x hx h' ky kn k hy hk => j5 ?_) fun h1 k1 e1 => ?_
  · obtain ⟨i, rfl, hi⟩ := range_mem hx
    have hi2 : i < (itms a).length := by omega
    have eg : (itms a)[i]? = some (itms a)[i] := List.getElem?_eq_getElem hi2
    simp only [sZ, sS, cA, lT, lCB, lOp, lC, aj, au, ao, gZ, gS]
    refine jE (x := (itms a)[i]) (by rw [atI_n]; exact eg) ?_
    obtain ⟨ds, pr, _⟩ := us
    obtain ⟨y, _, uy⟩ := pP pr _ (List.getElem_mem hi2)
    have kn2 := uy.kn.keep k
    have pk : pickT a (.int (i : Nat)) = if isTupE ((itms a)[i]) = true then some (.int (i : Nat)) else none := by
      simp only [pickT, Int.toNat_natCast, eg, Option.getD_some]
    refine isi_t kn2.ty (by simp) fun t2 e2 => ?_
    rcases ty_tup e2 kn2.2 with ⟨e3, xs, e4⟩ | ⟨e3, ns⟩
    · rw [e3]
      simp only [dX, if_true]
      refine hy _ ?_ _ .refl
      rw [pk, e4]
      rfl
    · rw [e3]
      simp only [dX, Bool.false_eq_true, if_false]
      refine hk ?_ _ .refl
      have : isTupE ((itms a)[i]) = false := by
        cases hh : (itms a)[i] <;> first | rfl | exact absurd hh (ns _)
      rw [pk, this]
      rfl
  rw [pick_all] at e1
  have B1 := B.keep k1
  have hF1 : ∀ r, F r → r < h1.length := fun r z => Nat.lt_of_lt_of_le (hF r z) k1.1
  have us1 := us.keep (k1.all (c := F))
  have rlb : h.length ≠ b := by have := B.lt; omega
  generalize h.length = rl at e1 rlb ⊢
  simp only [sZ, sS]
  have flat : ∀ (x3 : Option EV) (h1 : EH), (∀ r, F r → r < h1.length) → UVs F a.dep k0 h1 (itms a) → aP (is1 b) h h1 → bQ h1 b → lK ad (bZ ad dd) (aN Q) [some (.ref b), some (.tup (itms a)), some (.ref rl), x3, none, none, none] h1 := by
    intro x3 h1 hF1 us1 k1 B1
    unfold lK
    rw [aD, lPar3]
    simp only [aA, lCB, lC, aj, au, ao, gZ, gS, dM]
    refine jX 7 B1 rfl (by decide) (by decide) fun way h2 hw k2 B2 => ?_
    refine jX (itms a).length B2 rfl l0 (by omega) fun at_ h3 ha k3 B3 => ?_
    have k13 := k2.trans k3
    refine oddly (F := F) (n := a.dep + 4) (k := 300) B3 (fun r z => Nat.lt_of_lt_of_le (hF1 r z) k13.1) (by omega) (by decide) fun odd h4 u4 k4 B4 => ?_
    have k14 := k13.trans k4
    have us4 := (us1.keep (k14.of1 fb)).up (m := a.dep + 4) (by omega)
    have K4 := k1.trans k14
    have hF4 : ∀ r, F r → r < h4.length := fun r z => Nat.lt_of_lt_of_le (hF1 r z) k14.1
    have fin : ∀ ys k, UVs F (a.dep + 4) k h4 ys → ys.length ≤ 1000 → k ≤ kB S a.dep → (∀ x ∈ ys, PrS 60 x) → Q (.tup ys) h4 := fun ys k u l lk p => q _ _ ⟨u.tup l lk, pO p⟩ K4 B4
    have tk : ∀ x ∈ (itms a).take at_, PrS 60 x := fun x hx => ps x (List.mem_of_mem_take hx)
    have dr : ∀ i, ∀ x ∈ (itms a).drop i, PrS 60 x := fun i x hx => ps x (List.mem_of_mem_drop hx)
    have ltk : ((itms a).take at_).length ≤ 3 := by rw [List.length_take]; omega
    have ldr : ∀ i, ((itms a).drop i).length ≤ 3 := fun i => by rw [List.length_drop]; omega
    obtain ⟨wa, wb, wl, w1, w2⟩ := us4.split at_
    have sp : (itms a).drop at_ = (itms a)[at_] :: (itms a).drop (at_ + 1) := List.drop_eq_getElem_cons ha
    have w2' := w2
    rw [sp] at w2'
    obtain ⟨wc, wd, wl2, w3, w4⟩ := w2'.uncons
    simp only [sZ, sS]
    unfold qu
    try dsimp only
    rw [aD, aR]
    simp only [lB, lOp, lC, ao, gZ, gS]
    refine eqN_n (j := 0) ?_
    by_cases c0 : way = 0
    · rw [decide_eq_true c0]
      simp only [Bool.false_xor, if_true, aM, lCB, aj, au, ao, gZ, gS, listOf]
      refine q _ _ ⟨(us4.keep (aP.app _).all).lst (fun z => by have := hF4 _ z; omega) bK (by omega), prs_ref⟩ (K4.trans (aP.app _).all) (B4.keep (aP.app _))
    rw [decide_eq_false c0]
    simp only [Bool.false_xor, Bool.false_eq_true, if_false]
    try refine bB ?_
    unfold pX
    try dsimp only
    rw [aD, aR]
    simp only [lB, lOp, lC, ao, gZ, gS]
    refine eqN_n (j := 1) ?_
    by_cases c1 : way = 1
    · rw [decide_eq_true c1]
      simp only [Bool.false_xor, if_true, aM, lOp, lSl, aV, lC, aj, au, ao, gZ, gS, slE]
      rw [cut_to]
      refine rJ ?_
      rw [show ((at_ : Nat) : Int) + 1 = ((at_ + 1 : Nat) : Int) by omega]
      dsimp only
      rw [qj]
      have := ldr (at_ + 1)
      refine (show bU (.tup ((itms a).take at_)) (.tup ((itms a).drop (at_ + 1))) _ _ from ⟨by omega, ?_⟩)
      refine fin _ _ (w1.app w4) (by rw [List.length_append]; omega) (by omega) fun x hx => ?_
      rcases List.mem_append.mp hx with hx | hx
      · exact tk x hx
      · exact dr _ x hx
    rw [decide_eq_false c1]
    simp only [Bool.false_xor, Bool.false_eq_true, if_false]
    try refine bB ?_
    unfold qL
    try dsimp only
    rw [aD, aR]
    simp only [lB, lOp, lC, ao, gZ, gS]
    refine eqN_n (j := 2) ?_
    by_cases c2 : way = 2
    · rw [decide_eq_true c2]
      simp only [Bool.false_xor, if_true, aM, lOp, lSl, aV, aU, lC, aj, au, ao, gZ, gS, slE]
      rw [cut_to]
      refine jE (x := (itms a)[at_]) (by rw [atI_n]; exact List.getElem?_eq_getElem ha) ⟨by rw [sz]; simp, ?_⟩
      refine (show bU (.tup ((itms a).take at_)) (.tup [(itms a)[at_]]) _ _ from ⟨by simp only [List.length_singleton]; omega, ?_⟩)
      rw [qj]
      have := ldr at_
      refine (show bU (.tup ((itms a).take at_ ++ [(itms a)[at_]])) (.tup ((itms a).drop at_)) _ _ from ⟨by simp only [List.length_append, List.length_singleton]; omega, ?_⟩)
      refine fin _ _ ((w1.app (.one w3)).app w2) (by simp only [List.length_append, List.length_singleton]; omega) (by omega) fun x hx => ?_
      rcases List.mem_append.mp hx with hx | hx
      · rcases List.mem_append.mp hx with hx | hx
        · exact tk x hx
        · rw [List.mem_singleton.mp hx]; exact ps _ (List.getElem_mem ha)
      · exact dr _ x hx
    rw [decide_eq_false c2]
    simp only [Bool.false_xor, Bool.false_eq_true, if_false]
    try refine bB ?_
    unfold pW
    try dsimp only
    rw [aD, aR]
    simp only [lB, lOp, lC, ao, gZ, gS]
    refine eqN_n (j := 3) ?_
    by_cases c3 : way = 3
    · rw [decide_eq_true c3]
      simp only [Bool.false_xor, if_true, aM, aU, lC, aj, au, ao, gZ, gS]
      refine ⟨by rw [sz]; simp, ?_⟩
      have un : UV F (a.dep + 4) 300 h4 (.str wNot) := (plB_uv (k := 300) (by decide +kernel)).mono (fun _ z => z) (by omega) (Nat.le_refl _)
      have uw : UV F (a.dep + 4) k0 h4 (.tup (itms a)) := ((us1.keep (k14.of1 fb)).tup (j := k0) (by omega) (Nat.le_refl _)).mono (fun _ z => z) (by omega) (Nat.le_refl _)
      refine fin _ _ ((UVs.one un).app (.one uw)) (by simp) (by omega) fun x hx => ?_
      simp only [List.cons_append, List.nil_append, List.mem_cons, List.not_mem_nil, or_false] at hx
      rcases hx with rfl | rfl
      · exact rO (by decide) (by decide)
      · exact pO ps
    rw [decide_eq_false c3]
    simp only [Bool.false_xor, Bool.false_eq_true, if_false]
    try refine bB ?_
    unfold qp
    try dsimp only
    rw [aD, aR]
    simp only [lB, lOp, lC, ao, gZ, gS]
    refine eqN_n (j := 4) ?_
    by_cases c4 : way = 4
    · rw [decide_eq_true c4]
      simp only [Bool.false_xor, if_true, aM, lOp, aU, lC, aj, au, ao, gZ, gS]
      refine ⟨by rw [sz]; simp, (show bU (.tup (itms a)) (.tup [odd]) _ _ from ⟨by simp only [List.length_singleton]; omega, ?_⟩)⟩
      refine fin _ _ (us4.app (.one u4.1)) (by simp only [List.length_append, List.length_singleton]; omega) (by omega) fun x hx => ?_
      rcases List.mem_append.mp hx with hx | hx
      · exact ps x hx
      · rw [List.mem_singleton.mp hx]; exact u4.2
    rw [decide_eq_false c4]
    simp only [Bool.false_xor, Bool.false_eq_true, if_false]
    try refine bB ?_
    unfold qd
    simp only [aM, lOp, lSl, aV, aU, lC, aj, au, ao, gZ, gS, slE]
    rw [cut_to]
    refine ⟨by rw [sz]; simp, (show bU (.tup ((itms a).take at_)) (.tup [odd]) _ _ from ⟨by simp only [List.length_singleton]; omega, ?_⟩)⟩
    refine rJ ?_
    rw [show ((at_ : Nat) : Int) + 1 = ((at_ + 1 : Nat) : Int) by omega]
    dsimp only
    rw [qj]
    have := ldr (at_ + 1)
    refine (show bU (.tup ((itms a).take at_ ++ [odd])) (.tup ((itms a).drop (at_ + 1))) _ _ from ⟨by simp only [List.length_append, List.length_singleton]; omega, ?_⟩)
    refine fin _ _ ((w1.app (.one u4.1)).app w4) (by simp only [List.length_append, List.length_singleton]; omega) (by omega) fun x hx => ?_
    rcases List.mem_append.mp hx with hx | hx
    · rcases List.mem_append.mp hx with hx | hx
      · exact tk x hx
      · rw [List.mem_singleton.mp hx]; exact u4.2
    · exact dr _ x hx
  unfold ql
  try dsimp only
  rw [aD, aR]
  simp only [bR, lB, lOp, bM, aA, lC, aj, au, ao, gZ, gS]
  refine ⟨by rw [sz]; simp, ?_⟩
  have tA : tupAt a = [] ∨ tupAt a = [1] ∨ tupAt a = [1, 2] := by cases a <;> simp [tupAt]
  have dt : qI (h1 ++ [EO.lst []]) 59 ((tupAt a).map fun (k : Nat) => EV.int k) ((tupAt a).map fun (k : Nat) => PyData.int k) := by
    rcases tA with e | e | e <;> rw [e]
    · exact .nil
    · exact .cons (.int _) .nil
    · exact .cons (.int _) (.cons (.int _) .nil)
  refine eqE_nilG (dW e1 _) dt (by simp) bK ?_
  have k1' : aP no1 h1 (h1 ++ [EO.lst []]) := aP.app _
  have B1' := B1.keep k1'
  have e1' := k1'.at e1
  have hF1' : ∀ r, F r → r < (h1 ++ [EO.lst []]).length := fun r z => Nat.lt_of_lt_of_le (hF1 r z) k1'.1
  have us1' := us1.keep (k1'.all (c := F))
  have k01 : aP (is1 b) h (h1 ++ [EO.lst []]) := (k1.trans k1').all
  generalize h1 ++ [EO.lst []] = h2 at B1' e1' hF1' us1' k01 ⊢
  by_cases ce : tupAt a = []
  · rw [decide_eq_true (by rw [ce]; rfl)]
    simp only [Bool.true_xor, Bool.not_true, Bool.false_eq_true, if_false]
    try refine bB ?_
    exact flat _ h2 hF1' us1' k01 B1'
  rw [decide_eq_false (by simpa using ce)]
  simp only [Bool.true_xor, Bool.not_false, if_true]
  refine jX 3 B1' rfl (by decide) (by decide) fun w3 h3 hw3 k3 B3 => ?_
  have us3 := us1'.keep (k3.of1 fb)
  have hF3 : ∀ r, F r → r < h3.length := fun r z => Nat.lt_of_lt_of_le (hF1' r z) k3.1
  refine gtE_i ?_
  by_cases c3 : (0 : Int) < (w3 : Nat)
  case neg =>
    rw [decide_eq_false c3]
    simp only [Bool.false_eq_true, if_false]
    try refine bB ?_
    exact flat _ h3 hF3 us3 (k01.trans k3) B3
  rw [decide_eq_true c3]
  simp only [if_true]
  rw [aD, aY]
  simp only [aA, aj, au, ao, gZ, gS]
  have e3 := k3.other e1' rlb
  have lT : ((tupAt a).map fun (k : Nat) => EV.int k).length ≤ 2 := by rcases tA with e | e | e <;> rw [e] <;> simp
  refine ⟨b, rl, _, rfl, e3, by simpa using ce, by rw [sz]; omega, rlb, B3, fun x h4 hx k4 B4 => ?_⟩
  obtain ⟨i, hi, rfl⟩ := List.mem_map.mp hx
  obtain ⟨p, ep, dpl, pg, pm, psz⟩ := part_at hi
  obtain ⟨hi2, ep2⟩ := List.getElem?_eq_some_iff.mp ep
  have us4 := us3.keep (k4.of1 fb)
  have hF4 : ∀ r, F r → r < h4.length := fun r z => Nat.lt_of_lt_of_le (hF3 r z) k4.1
  simp only [sZ, sS, aM, lOp, lSl, aV, aU, aA, lC, aj, au, ao, gZ, gS, slE]
  rw [cut_to]
  refine jE (x := p.e) (by rw [atI_n]; exact ep) ?_
  obtain ⟨dd, rfl⟩ : ∃ e, dd = e + 1 := ⟨dd - 1, by omega⟩
  refine (show bZ ad (dd + 1) [.ref b, p.e] h4 _ from ⟨b, p, S, F, rfl, by omega, by omega, B4, fb, hF4, pg g, pm m, by omega, fun u h5 u5 k5 B5 => ⟨by rw [sz]; simp, ?_⟩⟩)
  have lti : ((itms a).take i).length ≤ 3 := by rw [List.length_take]; omega
  have ldr : ((itms a).drop (i + 1)).length ≤ 3 := by rw [List.length_drop]; omega
  refine (show bU (.tup ((itms a).take i)) (.tup [u]) _ _ from ⟨by simp only [List.length_singleton]; omega, ?_⟩)
  refine rJ ?_
  rw [show ((i : Nat) : Int) + 1 = ((i + 1 : Nat) : Int) by omega]
  dsimp only
  rw [qj]
  refine (show bU (.tup ((itms a).take i ++ [u])) (.tup ((itms a).drop (i + 1))) _ _ from ⟨by simp only [List.length_append, List.length_singleton]; omega, ?_⟩)
  have us5 := (us4.keep (k5.of1 fb)).up (m := a.dep + 4) (by omega)
  obtain ⟨wa, wb, wl, w1, w2⟩ := us5.split i
  obtain ⟨wc, wd, wl2, w3', w4⟩ := w2.split 1
  rw [List.drop_drop] at w4
  have hb2 := kB_sub (S := S) (c := k0) dpl hk1 (Nat.le_refl _)
  refine q _ _ ⟨((w1.app (.one (u5.1.mono (m := a.dep + 4) (fun _ z => z) (by omega) (Nat.le_refl _)))).app w4).tup (by simp only [List.length_append, List.length_singleton]; omega) (by omega), pO fun x hx => ?_⟩ (((k01.trans k3).trans k4).trans k5) B5
  rcases List.mem_append.mp hx with hx | hx
  · rcases List.mem_append.mp hx with hx | hx
    · exact ps x (List.mem_of_mem_take hx)
    · rw [List.mem_singleton.mp hx]; exact u5.2
  · exact ps x (List.mem_of_mem_drop hx)
def mD (ad : Ad) : LSp := fun evs h Q => ∃ (b : Nat) (l r : List Int) (F : Nat → Prop), evs = [.ref b, tx l, tx r] ∧ l.length ≤ 500 ∧ r.length ≤ 500 ∧ bQ h b ∧ F b ∧ (∀ r, F r → r < h.length) ∧ ∀ u h', V39 F 39 60000 h' u → aP (is1 b) h h' → bQ h' b → Q u h'
abbrev N__law_thing : List Str := ["_law_bag_here", "_law_left", "_law_right", "_law_way", "_law_saying_here", "_law_k"]
def t__law_thing_5 (ad : Ad) : LS :=
    aM (aA (lZ ad) (aj (ao 0) (aj (ao 4) (au))))
def t__law_thing_4 (ad : Ad) : LS :=
    aD (aR (lB (lOp (eqE false) (ao 3) (lC (.int 3))))
      (aM (aA (bz ad) (aj (ao 0) (aj (aA (cX ad) au) (au)))))
      (aQ)) <| t__law_thing_5 ad
def tM (ad : Ad) : LS :=
    aD (aR (lB (lOp (eqE false) (ao 3) (lC (.int 2))))
      (aM (aU (aj (aA (bz ad) (aj (ao 0) (aj (bM (aj (lC (.str [97, 110, 100])) (aj (lC (.str [111, 114])) (au)))) (au)))) (aj (ao 4) (aj (aA (fM ad) (aj (ao 0) (aj (ao 1) (aj (ao 2) (aj (lOp bU (lC (.int 1)) (aA (aH ad) (aj (ao 0) (aj (lC (.int 4)) (au))))) (au)))))) (au))))))
      (aQ)) <| t__law_thing_4 ad
def t__law_thing_2 (ad : Ad) : LS :=
    aD (aR (lB (lOp (eqE false) (ao 3) (lC (.int 1))))
      (aD (aR (lB (lOp gtE (aA (aH ad) (aj (ao 0) (aj (lC (.int 3)) (au)))) (lC (.int 0))))
      (aY (aU (aj (lC (.str [97, 110, 100])) (aj (aU (aj (lC (.str [107, 101, 112, 116])) (aj (aA (aH ad) (aj (ao 0) (aj (lC (.int 30)) (au)))) (aj (aA (aH ad) (aj (ao 0) (aj (lC (.int 30)) (au)))) (au))))) (aj (aU (aj (lC (.str [97, 108, 111, 110, 101])) (aj (lC (.str [114, 105, 103, 104, 116])) (aj (aA (aH ad) (aj (ao 0) (aj (lC (.int 30)) (au)))) (au))))) (au))))) 4)
      (aQ)) <|
    aD (eE (bW (aj (aA (bz ad) (aj (ao 0) (aj (bM (aj (lC (.int 7)) (aj (lC (.int 8)) (aj (lC (.int 6)) (aj (lC (.int 2)) (aj (lC (.int 9)) (aj (lC (.int 20)) (au)))))))) (au)))) (au))) (.nm 5)
      (aY (aU (aj (lC (.str [110, 111, 116])) (aj (ao 4) (au)))) 4)) <|
    aM (ao 4))
      (aQ)) <| tM ad
def t__law_thing_1 (ad : Ad) : LS :=
    aD (aR (lB (lOp (eqE false) (ao 3) (lC (.int 0))))
      (aM (ao 4))
      (aQ)) <| t__law_thing_2 ad
def t__law_thing_0 (ad : Ad) : LS :=
    aD (eU 3 4 (aj (aA (aH ad) (aj (ao 0) (aj (lC (.int 7)) (au)))) (aj (aA (fM ad) (aj (ao 0) (aj (ao 1) (aj (ao 2) (aj (lOp bU (lC (.int 1)) (aA (aH ad) (aj (ao 0) (aj (lC (.int 4)) (au))))) (au)))))) (au)))) <| t__law_thing_1 ad
def t__law_thing (ad : Ad) : LS :=
    aD (eU 3 4 (aj (aA (aH ad) (aj (ao 0) (aj (lC (.int 7)) (au)))) (aj (aA (fM ad) (aj (ao 0) (aj (ao 1) (aj (ao 2) (aj (lOp bU (lC (.int 1)) (aA (aH ad) (aj (ao 0) (aj (lC (.int 4)) (au))))) (au)))))) (au)))) <|
    aD (aR (lB (lOp (eqE false) (ao 3) (lC (.int 0))))
      (aM (ao 4))
      (aQ)) <|
    aD (aR (lB (lOp (eqE false) (ao 3) (lC (.int 1))))
      (aD (aR (lB (lOp gtE (aA (aH ad) (aj (ao 0) (aj (lC (.int 3)) (au)))) (lC (.int 0))))
      (aY (aU (aj (lC (.str [97, 110, 100])) (aj (aU (aj (lC (.str [107, 101, 112, 116])) (aj (aA (aH ad) (aj (ao 0) (aj (lC (.int 30)) (au)))) (aj (aA (aH ad) (aj (ao 0) (aj (lC (.int 30)) (au)))) (au))))) (aj (aU (aj (lC (.str [97, 108, 111, 110, 101])) (aj (lC (.str [114, 105, 103, 104, 116])) (aj (aA (aH ad) (aj (ao 0) (aj (lC (.int 30)) (au)))) (au))))) (au))))) 4)
      (aQ)) <|
    aD (eE (bW (aj (aA (bz ad) (aj (ao 0) (aj (bM (aj (lC (.int 7)) (aj (lC (.int 8)) (aj (lC (.int 6)) (aj (lC (.int 2)) (aj (lC (.int 9)) (aj (lC (.int 20)) (au)))))))) (au)))) (au))) (.nm 5)
      (aY (aU (aj (lC (.str [110, 111, 116])) (aj (ao 4) (au)))) 4)) <|
    aM (ao 4))
      (aQ)) <|
    aD (aR (lB (lOp (eqE false) (ao 3) (lC (.int 2))))
      (aM (aU (aj (aA (bz ad) (aj (ao 0) (aj (bM (aj (lC (.str [97, 110, 100])) (aj (lC (.str [111, 114])) (au)))) (au)))) (aj (ao 4) (aj (aA (fM ad) (aj (ao 0) (aj (ao 1) (aj (ao 2) (aj (lOp bU (lC (.int 1)) (aA (aH ad) (aj (ao 0) (aj (lC (.int 4)) (au))))) (au)))))) (au))))))
      (aQ)) <|
    aD (aR (lB (lOp (eqE false) (ao 3) (lC (.int 3))))
      (aM (aA (bz ad) (aj (ao 0) (aj (aA (cX ad) au) (au)))))
      (aQ)) <|
    aM (aA (lZ ad) (aj (ao 0) (aj (ao 4) (au))))
theorem len__law_thing (ad : Ad) (evs : List EV) (h : EH) (Q : EK) (q : mD ad evs h Q) : evs.length = ["_law_bag_here", "_law_left", "_law_right"].length := by
  obtain ⟨_, _, _, _, rfl, _⟩ := q; rfl
theorem say_siz {a : Say} (s : SayOk a) : mO a ≤ 12 := by have := a.siz; have := s.l4; have := s.w8; omega
theorem say_dep {a : Say} (s : SayOk a) : a.dep ≤ 8 := Nat.le_trans a.dep_words s.w8
theorem pure__law_thing (ad : Ad) (evs : List EV) (h : EH) (Q : EK) (q : mD ad evs h Q) : t__law_thing ad (aN Q) (bJ N__law_thing evs) h := by
  obtain ⟨b, l, r, F, rfl, ll, lr, B, fb, hF, q⟩ := q
  have sz : sizeLine = 16777216 := bu
  show t__law_thing_0 ad (aN Q) [some (.ref b), some (tx l), some (tx r), none, none, none] h
  have say : ∀ (h1 : EH) (P : EK), bQ h1 b → (∀ (a : Say) h', SayOk a → a.Nums → aP (is1 b) h1 h' → bQ h' b → P a.e h') → aH ad [.ref b, .int 4] h1 fun x h2 => bU (.int 1) x h2 fun x h2 => fM ad [.ref b, tx l, tx r, x] h2 P := by
    intro h1 P B1 p
    refine jX 4 B1 rfl (by decide) (by decide) fun n h2 hn k2 B2 => rJ ?_
    refine ⟨b, l, r, n + 1, by congr; omega, ll, lr, by omega, by omega, B2, fun a h3 ok ai _ _ _ k3 B3 => p a h3 ok (nums_in ai ll lr) (k2.trans k3) B3⟩
  unfold t__law_thing_0
  rw [aD, eU]
  simp only [aA, lOp, lC, aj, au, ao, gZ, gS]
  refine jX 7 B rfl (by decide) (by decide) fun way h1 hw k1 B1 => ?_
  refine say h1 _ B1 fun a h2 ok an k2 B2 => ?_
  have k02 := k1.trans k2
  have hF2 : ∀ r, F r → r < h2.length := fun r z => Nat.lt_of_lt_of_le (hF r z) k02.1
  have sa := say_siz ok
  have da := say_dep ok
  simp only [sZ, sS]
  unfold t__law_thing_1
  try dsimp only
  rw [aD, aR]
  simp only [lB, lOp, lC, ao, gZ, gS]
  refine eqN_n (j := 0) ?_
  by_cases c0 : way = 0
  · rw [decide_eq_true c0]
    simp only [Bool.false_xor, if_true, aM, ao, gZ, gS]
    exact q _ h2 (say_v39 ok.g an (by omega) (by omega)) k02 B2
  rw [decide_eq_false c0]
  simp only [Bool.false_xor, Bool.false_eq_true, if_false]
  try refine bB ?_
  unfold t__law_thing_2
  try dsimp only
  rw [aD, aR]
  simp only [lB, lOp, lC, ao, gZ, gS]
  refine eqN_n (j := 1) ?_
  by_cases c1 : way = 1
  · rw [decide_eq_true c1]
    simp only [Bool.false_xor, if_true]
    have nots : ∀ (a : Say) (h3 : EH), a.Good → a.Nums → a.dep ≤ 8 → mO a ≤ 12 → aP (is1 b) h h3 → bQ h3 b →
        (aD (eE (bW (aj (aA (bz ad) (aj (ao 0) (aj (bM (aj (lC (.int 7)) (aj (lC (.int 8)) (aj (lC (.int 6)) (aj (lC (.int 2)) (aj (lC (.int 9)) (aj (lC (.int 20)) (au)))))))) (au)))) (au))) (.nm 5)
          (aY (aU (aj (lC (.str [110, 111, 116])) (aj (ao 4) (au)))) 4)) <| aM (ao 4)) { nx := tM ad (aN Q), rt := Q, bk := (aN Q).bk, ct := (aN Q).ct } [some (.ref b), some (tx l), some (tx r), some (.int (way : Nat)), some a.e, none] h3 := by
      intro a h3 g m da sa k3 B3
      rw [aD, eE]
      simp only [bW, aA, bM, lC, aj, au, ao, gZ, gS]
      refine ⟨by rw [sz]; simp, ?_⟩
      refine one_new B3 (by simp) (by simp) fun x h4 hx k4 B4 => ?_
      obtain ⟨n, rfl, hn⟩ : ∃ n : Nat, x = .int (n : Nat) ∧ n ≤ 20 := by
        simp only [List.mem_cons, List.not_mem_nil, or_false] at hx
        rcases hx with rfl | rfl | rfl | rfl | rfl | rfl
        · exact ⟨7, rfl, by decide⟩
        · exact ⟨8, rfl, by decide⟩
        · exact ⟨6, rfl, by decide⟩
        · exact ⟨2, rfl, by decide⟩
        · exact ⟨9, rfl, by decide⟩
        · exact ⟨20, rfl, by decide⟩
      refine ⟨⟨by omega, by omega⟩, ?_⟩
      rw [Int.toNat_natCast]
      refine loop_nat n (fun i env h' => h' = h4 ∧ ∃ (c : Say) (x5 : Option EV), env = [some (.ref b), some (tx l), some (tx r), some (.int (way : Nat)), some c.e, x5] ∧ c.Good ∧ c.Nums ∧ c.dep ≤ 8 + i ∧ mO c ≤ 12 + i) ?_ ?_ _ _ ⟨rfl, a, _, rfl, g, m, da, sa⟩
      · rintro env h' ⟨rfl, c, x5, rfl, g, m, d, s⟩
        refine ⟨trivial, ?_⟩
        simp only [aM, ao, gZ, gS]
        exact q _ _ (say_v39 g m (by omega) (by omega)) (k3.trans k4) B4
      · rintro i env h' kk hi ⟨rfl, c, x5, rfl, g, m, d, s⟩ hkk
        refine ⟨trivial, j5 ?_⟩
        simp only [sZ, sS, aY, aU, lC, aj, au, ao, gZ, gS]
        refine ⟨by rw [sz]; simp, ?_⟩
        exact hkk _ _ ⟨rfl, .neg c, _, rfl, g, m, by simp only [Say.dep]; omega, by simp only [mO]; omega⟩
    rw [aD, aR]
    simp only [lB, lOp, aA, lC, aj, au, ao, gZ, gS]
    refine jX 3 B2 rfl (by decide) (by decide) fun w3 h3 hw3 k3 B3 => gtE_i ?_
    by_cases c3 : (0 : Int) < (w3 : Nat)
    · rw [decide_eq_true c3]
      simp only [if_true, aY, aU, aA, lC, aj, au, ao, gZ, gS]
      refine jX 30 B3 rfl (by decide) (by decide) fun i h4 hi k4 B4 => ?_
      refine jX 30 B4 rfl (by decide) (by decide) fun j h5 hj k5 B5 => ⟨by rw [sz]; simp, ?_⟩
      refine jX 30 B5 rfl (by decide) (by decide) fun m h6 hm k6 B6 => ⟨by rw [sz]; simp, by rw [sz]; simp, ?_⟩
      simp only [sZ, sS]
      have ki : i ≤ 1000 := by omega
      have kj : j ≤ 1000 := by omega
      have km : m ≤ 1000 := by omega
      exact nots (.bin true (.kept i j) (.alone true m)) h6 ⟨trivial, trivial⟩ ⟨⟨ki, kj⟩, km⟩ (by simp [Say.dep]) (by simp [mO]) ((((k02.trans k3).trans k4).trans k5).trans k6) B6
    · rw [decide_eq_false c3]
      simp only [Bool.false_eq_true, if_false]
      try refine bB ?_
      exact nots a h3 ok.g an da sa (k02.trans k3) B3
  rw [decide_eq_false c1]
  simp only [Bool.false_xor, Bool.false_eq_true, if_false]
  try refine bB ?_
  unfold tM
  try dsimp only
  rw [aD, aR]
  simp only [lB, lOp, lC, ao, gZ, gS]
  refine eqN_n (j := 2) ?_
  by_cases c2 : way = 2
  · rw [decide_eq_true c2]
    simp only [Bool.false_xor, if_true, aM, aU, bM, aA, lOp, lC, aj, au, ao, gZ, gS]
    refine ⟨by rw [sz]; simp, one_new B2 (by simp) (by simp) fun x h3 hx k3 B3 => ?_⟩
    obtain ⟨w, rfl⟩ : ∃ w, x = .str (bnN w) := by
      simp only [List.mem_cons, List.not_mem_nil, or_false] at hx
      rcases hx with rfl | rfl
      · exact ⟨true, rfl⟩
      · exact ⟨false, rfl⟩
    refine say h3 _ B3 fun c h4 okc cn k4 B4 => ⟨by rw [sz]; simp, ?_⟩
    have sc := say_siz okc
    have dc := say_dep okc
    exact q _ h4 (say_v39 (a := .bin w a c) ⟨ok.g, okc.g⟩ ⟨an, cn⟩ (by simp only [Say.dep]; omega) (by simp only [mO]; omega)) ((k02.trans k3).trans k4) B4
  rw [decide_eq_false c2]
  simp only [Bool.false_xor, Bool.false_eq_true, if_false]
  try refine bB ?_
  unfold t__law_thing_4
  try dsimp only
  rw [aD, aR]
  simp only [lB, lOp, lC, ao, gZ, gS]
  refine eqN_n (j := 3) ?_
  by_cases c3 : way = 3
  · rw [decide_eq_true c3]
    simp only [Bool.false_xor, if_true, aM, aA, aj, au, ao, gZ, gS]
    exact oddly B2 hF2 (by decide) (by decide) fun u h3 u3 k3 B3 => q u h3 u3 (k02.trans k3) B3
  rw [decide_eq_false c3]
  simp only [Bool.false_xor, Bool.false_eq_true, if_false]
  try refine bB ?_
  unfold t__law_thing_5
  simp only [aM, aA, aj, au, ao, gZ, gS]
  have kb : kB 12 a.dep ≤ 60000 := by unfold kB; omega
  exact (show bZ ad (11 + 1) [.ref b, a.e] h2 _ from ⟨b, a, 12, F, rfl, Nat.le_trans da (by decide), Nat.le_trans da (by decide), B2, fb, hF2, ok.g, an, sa, fun u h3 u3 k3 B3 => q u h3 (u3.mono (fun _ z => z) (by omega) kb) (k02.trans k3) B3⟩)
def jM (ad : Ad) : LSpX := fun evs h Q W => ∃ v, evs = [v] ∧ Dp 12 h v ∧ (atsV v = none → ∀ h', aP no1 h h' → W ad.a_NoSaying [("thing", v)] h') ∧
  ∀ a : Say, v = a.e → SayOk a → ∀ r h', aP no1 h h' → h.length ≤ r → h'[r]? = some (.lst ((lE a.leaves).map Say.e)) → Q (.ref r) h'
abbrev N_atoms_k39__X : List Str := ["saying", "found"]
def oR (ad : Ad) (W : EW) : LS :=
    aD (aY (aA (jT ad) (aj (ao 0) (au))) 1) <|
    aD (aR (lB (lOp (isN false) (ao 1) (lC .non)))
      (lRaise W ad.a_NoSaying "thing" (ao 0))
      (aQ)) <|
    aM (aA (sW ad) (aj (ao 1) (au)))
theorem len_atoms_k39__X (ad : Ad) (evs : List EV) (h : EH) (Q : EK) (W : ED) (q : jM ad evs h Q W) : evs.length = ["saying"].length := by
  obtain ⟨_, rfl, _⟩ := q; rfl
theorem pure_atoms_k39__X (ad : Ad) (evs : List EV) (h0 : EH) (Q : EK) (W : ED) (q : jM ad evs h0 Q W) (mk : EO) (hmk : isF mk = true) :
    oR ad (fun C fs _ h' => h'[h0.length]? = some mk ∧ W C fs h') (aN Q) (bJ N_atoms_k39__X evs) (h0 ++ [mk]) := by
  obtain ⟨v, rfl, dp, qn, qs⟩ := q
  have k0 : aP no1 h0 (h0 ++ [mk]) := aP.app _
  have m0 : (h0 ++ [mk])[h0.length]? = some mk := bK
  show oR ad _ (aN Q) [some v, none] _
  unfold oR
  rw [aD, aY]
  simp only [aA, aj, au, ao, gZ]
  refine ⟨v, rfl, dp.keep k0, fun e h1 k1 => ?_, fun l r h1 e k1 l1 e1 => ?_⟩
  · simp only [sZ, sS]
    rw [aD, aR]
    simp only [lB, lOp, lC, ao, gZ, gS, isN, if_true, lRaise]
    exact ⟨k1.at m0, qn e h1 (k0.trans k1)⟩
  · obtain ⟨a, rfl, ok, rfl⟩ := atsV_is dp e
    simp only [sZ, sS]
    rw [aD, aR]
    simp only [lB, lOp, lC, ao, gZ, gS, isN, Bool.false_eq_true, if_false]
    try refine bB ?_
    simp only [aM, aA, aj, au, ao, gZ, gS]
    refine ⟨r, a.leaves, rfl, e1, fun b hb => ⟨a.leaves_atom b hb, a.leaves_good ok.g b hb⟩, by have := ok.l4; omega, fun r2 h2 k2 l2 e2 => ?_⟩
    exact qs a rfl ok r2 h2 ((k0.trans k1).trans k2) (by have := k1.1; simp at this; omega) e2
theorem prs {ad : Ad} {env : En} {h : EH} {P : EK} (p : ∀ r g, aP no1 h g → (∀ g', aP no1 g g' → tyE (.ref r) g' = some "?") → P (.ref r) g) : lMake ad.a_Prices (fK ad) (aj (lDnew) (au)) env h P := by
  simp only [lMake, aj, au, lDnew]
  refine ⟨_, _, [], rfl, bK, dW bK _, ⟨List.nodup_nil, fun _ h => (by cases h)⟩, by decide, fun h1 k1 pr => ⟨rfl, ?_⟩⟩
  have kn : aP no1 (h ++ [EO.dic []]) h1 := keep_new (aP.app _) k1 (Nat.le_refl _)
  refine p _ h1 ((aP.app _).trans kn) fun g' k => ?_
  obtain ⟨d, e1, _⟩ := pr
  simp only [tyE, k.at e1]
theorem kn_obj {r : Nat} {g : EH} (t : ∀ g', aP no1 g g' → tyE (.ref r) g' = some "?") : Kn g (.ref r) := ⟨⟨"?", t⟩, fun _ e => by cases e⟩
def gK (ad : Ad) : Nat → LSp
  | 0 => fun _ _ _ => False
  | d + 1 => fun evs h Q => ∃ a : Say, evs = [a.e] ∧ a.dep ≤ d ∧ a.Good ∧ a.leaves.length ≤ 100 ∧ ∀ r h', aP no1 h h' → h.length ≤ r → h'[r]? = some (.lst ((lE a.leaves).map Say.e)) → Q (.ref r) h'
def sp__law_atoms (ad : Ad) : LSp := gK ad 12
abbrev N__law_atoms : List Str := ["_law_saying_here", "_law_found", "_law_part", "_law_more", "_law_atom_here"]
def t__law_atoms_3 (ad : Ad) (me : LSp) : LS :=
    aM (ao 1)
def t__law_atoms_2b_1 (ad : Ad) (me : LSp) : LS :=
    aY (lOp bU (ao 1) (lLc (lIt (ao 3)) (.nm 4) (lB (lOp (inA true) (ao 4) (ao 1))) (ao 4) [4])) 1
def t__law_atoms_2b_0 (ad : Ad) (me : LSp) : LS :=
    aD (aY (aA me (aj (ao 2) (au))) 3) <| t__law_atoms_2b_1 ad me
def t__law_atoms_2 (ad : Ad) (me : LSp) : LS :=
    aD (eE (lIt (lSl (ao 0) (aV (some (lC (.int 1)))) (aV none))) (.nm 2)
      (t__law_atoms_2b_0 ad me)) <| t__law_atoms_3 ad me
def t__law_atoms_1 (ad : Ad) (me : LSp) : LS :=
    aD (aY (bM (au)) 1) <| t__law_atoms_2 ad me
def t__law_atoms_0 (ad : Ad) (me : LSp) : LS :=
    aD (aR (lB (lOp (inA false) (lOp ixA (ao 0) (lC (.int 0))) (aU (aj (lC (.str [107, 101, 112, 116])) (aj (lC (.str [97, 108, 111, 110, 101])) (aj (lC (.str [98, 101, 103, 105, 110, 115])) (aj (lC (.str [108, 97, 116, 101, 114])) (au))))))))
      (aM (bM (aj (ao 0) (au))))
      (aQ)) <| t__law_atoms_1 ad me
def t__law_atoms (ad : Ad) (me : LSp) : LS :=
    aD (aR (lB (lOp (inA false) (lOp ixA (ao 0) (lC (.int 0))) (aU (aj (lC (.str [107, 101, 112, 116])) (aj (lC (.str [97, 108, 111, 110, 101])) (aj (lC (.str [98, 101, 103, 105, 110, 115])) (aj (lC (.str [108, 97, 116, 101, 114])) (au))))))))
      (aM (bM (aj (ao 0) (au))))
      (aQ)) <|
    aD (aY (bM (au)) 1) <|
    aD (eE (lIt (lSl (ao 0) (aV (some (lC (.int 1)))) (aV none))) (.nm 2)
      (aD (aY (aA me (aj (ao 2) (au))) 3) <|
    aY (lOp bU (ao 1) (lLc (lIt (ao 3)) (.nm 4) (lB (lOp (inA true) (ao 4) (ao 1))) (ao 4) [4])) 1)) <|
    aM (ao 1)
theorem len__law_atoms (ad : Ad) (dd : Nat) (evs : List EV) (h : EH) (Q : EK) (q : gK ad (dd + 1) evs h Q) : evs.length = ["_law_saying_here"].length := by
  obtain ⟨_, rfl, _⟩ := q; rfl
theorem dedS_app (x y : List Say) : lE (x ++ y) = lE x ++ (lE y).filter fun a => !decide (a ∈ lE x) := by
  induction y using snocInd with
  | nil => simp [show lE [] = [] from rfl]
  | snoc y a ih =>
    rw [← List.append_assoc, sX, sX, ih]
    by_cases h1 : a ∈ lE x
    · rw [if_pos (List.mem_append_left _ h1)]
      by_cases h2 : a ∈ lE y
      · rw [if_pos h2]
      · rw [if_neg h2, List.filter_append]
        simp [h1]
    · by_cases h2 : a ∈ lE y
      · rw [if_pos h2, if_pos (List.mem_append_right _ (List.mem_filter.mpr ⟨h2, by simp [h1]⟩))]
      · rw [if_neg h2, if_neg, List.filter_append]
        · simp [h1]
        · intro hm
          rcases List.mem_append.mp hm with hm | hm
          · exact h1 hm
          · exact h2 (List.mem_filter.mp hm).1
theorem Say.leaves_parts {a : Say} (h : a.isAtom = false) : a.leaves = a.parts.flatMap Say.leaves := by
  cases a with
  | neg p => simp [Say.leaves, Say.parts]
  | bin b p q => simp [Say.leaves, Say.parts]
  | _ => cases h
theorem Say.parts_good {a : Say} (g : a.Good) : ∀ p ∈ a.parts, p.Good := by
  intro p hp
  cases a with
  | neg q => rw [List.mem_singleton.mp hp]; exact g
  | bin b q r =>
    rcases List.mem_cons.mp hp with rfl | hp
    · exact g.1
    · rw [List.mem_singleton.mp hp]; exact g.2
  | _ => cases hp
theorem wordIn4 (a : Say) {h : EH} {P : EK} (p : P (.bl a.isAtom) h) : inA false (.str a.word) (.tup [.str nQ, .str jD, .str dJ, .str [108, 97, 116, 101, 114]]) h P := by
  refine ⟨rfl, rfl, ?_⟩
  have : inF (.str a.word) [.str nQ, .str jD, .str dJ, .str [108, 97, 116, 101, 114]] = a.isAtom := by
    cases a with
    | bin b p q => cases b <;> rfl
    | _ => rfl
  rw [this]
  simpa using p
theorem pure__law_atoms (ad : Ad) (dd : Nat) (evs : List EV) (h : EH) (Q : EK) (q : gK ad (dd + 1) evs h Q) : t__law_atoms ad (gK ad dd) (aN Q) (bJ N__law_atoms evs) h := by
  obtain ⟨a, rfl, hd, g, l100, q⟩ := q
  have sz : sizeLine = 16777216 := bu
  show t__law_atoms_0 ad (gK ad dd) (aN Q) [some a.e, none, none, none, none] h
  unfold t__law_atoms_0
  rw [aD, aR]
  simp only [lB, lOp, lC, aU, aj, au, ao, gZ]
  have ia : ∀ P : EK, P (.str a.word) h → ixA a.e (.int 0) h P := fun P p => by rw [a.e_eq]; exact jE at0 p
  refine ia _ ⟨by simp [bu], wordIn4 a ?_⟩
  cases ha : a.isAtom with
  | true =>
    simp only [if_true, aM, bM, aj, au, ao, gZ]
    have e0 : a.leaves = [a] := by cases a <;> first | rfl | cases ha
    refine ⟨by simp [bu], q h.length _ (aP.app _) (Nat.le_refl _) ?_⟩
    rw [bK, e0]
    rfl
  | false =>
    simp only [Bool.false_eq_true, if_false]
    try refine bB ?_
    unfold t__law_atoms_1
    try dsimp only
    rw [aD, aY]
    simp only [bM, au]
    refine ⟨by simp [bu], ?_⟩
    have e1 : (h ++ [EO.lst []])[h.length]? = some (.lst ((lE []).map Say.e)) := bK
    have k1 : aP no1 h (h ++ [EO.lst []]) := aP.app _
    generalize h ++ [EO.lst []] = h1 at e1 k1 ⊢
    have hr : h.length ≤ h.length := Nat.le_refl _
    generalize hrr : h.length = r0 at e1 ⊢
    rw [hrr] at hr
    try simp only [sZ, sS]
    unfold t__law_atoms_2
    try dsimp only
    rw [aD, eE]
    simp only [lIt, lSl, aV, lC, ao, gZ, slE]
    have ee : a.e = .tup (.str a.word :: a.parts.map Say.e) := by rw [a.e_eq, Say.rest_parts ha]
    have lp := Say.leaves_parts ha
    generalize hae : a.e = ae at ee ⊢
    have cu : cut (.str a.word :: a.parts.map Say.e) (some (1 : Int)) none = a.parts.map Say.e := by
      rw [show (some (1 : Int)) = some ((1 : Nat) : Int) from rfl, qj]; rfl
    subst ee
    simp only [cu]
    refine loop_on Say.e a.parts (fun pre post env h' => aP no1 h h' ∧ ∃ (r : Nat) (x0 x2 x3 : Option EV), env = [x0, some (.ref r), x2, x3, none] ∧ h.length ≤ r ∧ h'[r]? = some (.lst ((lE (pre.flatMap Say.leaves)).map Say.e))) ?_ ?_ _ _ ⟨k1, r0, _, _, _, rfl, by omega, e1⟩
    · rintro env h' ⟨k, r, x0, x2, x3, rfl, lr, er⟩
      refine ⟨trivial, ?_⟩
      unfold t__law_atoms_3
      simp only [aM, ao, gZ, gS]
      exact q r h' k lr (by rw [er, lp])
    · rintro pre p post env h' kk ep ⟨k, r, x0, x2, x3, rfl, lr, er⟩ hk
      have hp : p ∈ a.parts := by rw [ep]; simp
      refine ⟨trivial, j5 ?_⟩
      simp only [sZ, sS]
      unfold t__law_atoms_2b_0
      rw [aD, aY]
      simp only [aA, aj, au, ao, gZ, gS]
      have lt := Say.parts_dep p hp
      obtain ⟨d, rfl⟩ : ∃ d, dd = d + 1 := ⟨dd - 1, by omega⟩
      have gp := Say.parts_good g p hp
      have len : (pre.flatMap Say.leaves).length + p.leaves.length ≤ 100 := by
        have := congrArg List.length lp
        rw [ep, List.flatMap_append, List.flatMap_cons, List.length_append, List.length_append] at this
        omega
      refine ⟨p, rfl, by omega, gp, by omega, fun r3 h3 k3 l3 e3 => ?_⟩
      try simp only [sZ, sS]
      unfold t__law_atoms_2b_1
      try dsimp only
      rw [aY]
      simp only [lOp, lLc, lIt, ao, gZ, gS, e3]
      have er3 := k3.at er
      have gd : ∀ b ∈ pre.flatMap Say.leaves, b.isAtom = true ∧ b.Good := fun b hb => by
        obtain ⟨c, hc, hb⟩ := List.mem_flatMap.mp hb
        exact ⟨c.leaves_atom b hb, c.leaves_good (Say.parts_good g c (by rw [ep]; exact List.mem_append_left _ hc)) b hb⟩
      have d1 := dedS_len (pre.flatMap Say.leaves)
      have d2 := dedS_len p.leaves
      refine lc_keep Say.e (fun b => if b ∈ lE (pre.flatMap Say.leaves) then none else some b.e) (lE p.leaves) (by omega) (fun h' k => k.at e3) (fun b hb h4 ky kn k4 hy hn => ?_) fun h4 k4 e4 => ?_
      · refine j5 ?_
        simp only [sZ, sS, cA]
        simp only [lB, lOp, ao, gZ, gS]
        have hbm := (dedS_mem _ b).mp hb
        refine in_atoms ⟨p.leaves_atom b hbm, p.leaves_good gp b hbm⟩ (fun c hc => gd c ((dedS_mem _ c).mp hc)) (k4.at er3) ?_
        by_cases c : b ∈ lE (pre.flatMap Say.leaves)
        · rw [decide_eq_true c]
          simp only [Bool.true_xor, Bool.not_true, Bool.false_eq_true, if_false]
          exact hn (by rw [if_pos c]) h4 .refl
        · rw [decide_eq_false c]
          simp only [Bool.true_xor, Bool.not_false, if_true]
          exact hy _ (by rw [if_neg c]) h4 .refl
      · have fm : ((lE p.leaves).filterMap fun b => if b ∈ lE (pre.flatMap Say.leaves) then none else some b.e) = ((lE p.leaves).filter fun b => !decide (b ∈ lE (pre.flatMap Say.leaves))).map Say.e := by
          generalize lE p.leaves = bs
          induction bs with
          | nil => rfl
          | cons b bs ih =>
            rw [List.filterMap_cons, List.filter_cons]
            by_cases c : b ∈ lE (pre.flatMap Say.leaves)
            · rw [if_pos c, decide_eq_true c]; exact ih
            · rw [if_neg c, decide_eq_false c]; exact congrArg (List.cons _) ih
        rw [fm] at e4
        have fl := List.length_filter_le (fun b => !decide (b ∈ lE (pre.flatMap Say.leaves))) (lE p.leaves)
        refine add_l (k4.at er3) e4 (by rw [List.length_map, List.length_map, bu]; omega) ?_
        have k34 := (k.trans k3).trans k4
        refine hk _ _ ⟨k34.trans (aP.app _), h4.length, _, _, _, rfl, k34.1, ?_⟩
        rw [bK, ← List.map_append, ← dedS_app, List.flatMap_append]
        simp
theorem u_repr {F : Nat → Prop} {n k : Nat} {h : EH} {v : EV} {d : PyData} (z : U F h n v d) (s : shB k d) (l1 : n ≤ 40) (l2 : k ≤ 100000) {P : EK} (p : P (.str d.shown.cps.toList) h) : qU [v] h P := by
  obtain ⟨s1, s2⟩ := s.fits l2
  have u' := U.dat 40 (z.le l1)
  have u2 := u'
  have leaf : tO v d → qU [v] h P := fun z => by
    have : Dat h 55 v d := by
      cases v with
      | non => cases (show d = .none from z); exact .non
      | bl b => cases (show d = .bool b from z); exact .bl b
      | int i => cases (show d = .int i from z); exact .int i
      | str s => cases (show d = .str (S s) from z); exact .str _
      | _ => exact z.elim
    exact .inr (.inr ⟨d, .el (.pl this), s1, s2, p⟩)
  rcases u' with z | ⟨xs, ds, rfl | rfl, _⟩ | ⟨r, xs, ds, rfl, _⟩ | ⟨r, kvs, ps, rfl, _⟩
  · exact leaf z
  all_goals exact .inl ⟨_, trivial, u2, s1, s2, p⟩
theorem leaf_nt {v : EV} {d : PyData} (z : tO v d) : (∀ xs, v ≠ .tup xs) ∧ ∀ xs, v ≠ .ktup xs := by
  cases v <;> first | exact z.elim | exact ⟨fun _ e => (by cases e), fun _ e => (by cases e)⟩
theorem U.sam {F : Nat → Prop} {h : EH} : ∀ (n : Nat) {v : EV} {d : PyData}, U F h n v d → SamE n v
  | 0, v, d, z => leaf_nt z
  | n + 1, v, d, z => by
    rcases z with z | ⟨xs, ds, rfl, l, rfl, p⟩ | ⟨r, xs, ds, rfl, _⟩ | ⟨r, kvs, ps, rfl, _⟩
    · exact fun xs e x hx => (e.elim ((leaf_nt z).1 xs) ((leaf_nt z).2 xs)).elim
    · rintro ys (e | e) x hx
      · cases e
        obtain ⟨d, _, u⟩ := pP p x hx
        exact U.sam n u
      · cases e
    · rintro ys (e | e) <;> cases e
    · rintro ys (e | e) <;> cases e
theorem prd_self {α : Type} {R : α → α → Prop} : ∀ {xs : List α}, (∀ x ∈ xs, R x x) → Paired R xs xs
  | [], _ => .nil
  | x :: xs, p => .cons (p x (by simp)) (prd_self fun y hy => p y (by simp [hy]))
theorem SamE.alk {h : EH} {n : Nat} {v : EV} (s : SamE n v) : AlkE h n v v := by
  cases n with
  | zero => exact ⟨rfl, s⟩
  | succ n => exact .inl ⟨rfl, s⟩
theorem U.eqI {F : Nat → Prop} {h : EH} {n : Nat} (hn : n ≤ 39) {v : EV} {d : PyData} (z : U F h n v d) {P : EK} (p : P (.bl true) h) : Y.eqI v v h P := by
  have leaf : tO v d → Y.eqI v v h P := fun z => by
    have : Dat h 60 v d := by
      cases v with
      | non => cases (show d = .none from z); exact .non
      | bl b => cases (show d = .bool b from z); exact .bl b
      | int i => cases (show d = .int i from z); exact .int i
      | str s => cases (show d = .str (S s) from z); exact .str _
      | _ => exact z.elim
    exact .inr (.inl (eqE_same this this p))
  cases n with
  | zero => exact leaf z
  | succ n =>
    rcases z with z | ⟨xs, ds, rfl, l, rfl, pp⟩ | ⟨r, xs, ds, rfl, _, e, rfl, pp⟩ | ⟨r, kvs, ps, rfl, _, e, _⟩
    · exact leaf z
    · exact .inl ⟨.inl ⟨xs, xs, rfl, rfl, prd_self fun x hx => by
        obtain ⟨d, _, u⟩ := pP pp x hx
        exact ((U.sam n u).le (by omega)).alk⟩, p⟩
    · exact .inl ⟨.inr (.inl ⟨r, r, xs, xs, rfl, rfl, e, e, prd_self fun x hx => by
        obtain ⟨d, _, u⟩ := pP pp x hx
        exact ((U.sam n u).le (by omega)).alk⟩), p⟩
    · exact .inl ⟨.inr (.inr ⟨r, kvs, rfl, rfl, e⟩), p⟩
def bG (ad : Ad) : LSp := fun evs h Q => ∃ (v w : EV) (t : List Nat), evs = [v, w] ∧ (∀ P : EK, P (.bl true) h → eqI v w h P) ∧ (∀ P : EK, P (.str t) h → qU [v] h P) ∧ (∀ P : EK, P (.str t) h → qU [w] h P) ∧ Q (.bl true) h
def gJ (ad : Ad) : LSp := fun evs h Q => ∃ (v : EV) (F : Nat → Prop), evs = [v] ∧ V39 F 39 60000 h v ∧ (atsV v = none → ∀ h', aP no1 h h' → Q (.tup [.str [114, 101, 102, 117, 115, 101, 100], .bl true]) h') ∧
  ∀ a : Say, v = a.e → SayOk a → ∀ r h', aP no1 h h' → h.length ≤ r → h'[r]? = some (.lst ((lE a.leaves).map Say.e)) → Q (.tup [.str [116, 111, 108, 100], .ref r]) h'
def jP (ad : Ad) : LSp := fun evs h Q => ∃ (v : EV) (F : Nat → Prop), evs = [v] ∧ V39 F 39 60000 h v ∧ ∀ h', aP no1 h h' → Q (.bl true) h'
abbrev N__law_alike_k39 : List Str := ["_law_found", "_law_due"]
def lV (ad : Ad) : LS :=
    aM (bA (lOp eqI (ao 0) (ao 1)) (lOp eqI (lCB qU (aj (ao 0) (au))) (lCB qU (aj (ao 1) (au)))))
abbrev N__law_told_atoms : List Str := ["_law_thing_here", "_law_found", "e", "_law_plain"]
def qW (ad : Ad) : LS :=
    aM (aU (aj (lC (.str [116, 111, 108, 100])) (aj (ao 1) (au))))
def rA (ad : Ad) : LS :=
    aD (lTryV (fun W =>
      aY (lCallX (jM ad) W (aj (ao 0) (au))) 1) [⟨ad.a_NoSaying, [ad.a_NoSaying], some 2, aD (aY (bA (lCB (isiX (.adr ad.a_EarlyError) [(ad.a_NoSaying, true)]) (aj (ao 2) (aj (lC (.adr ad.a_EarlyError)) (au)))) (bA (lCB (isiX (.ty "ValueError") [(ad.a_NoSaying, true)]) (aj (ao 2) (aj (lC (.ty "ValueError")) (au)))) (cM (lCB (isiX (.adr ad.a_NoSuchLetter) [(ad.a_NoSaying, false)]) (aj (ao 2) (aj (lC (.adr ad.a_NoSuchLetter)) (au))))))) 3) <|
    aM (aU (aj (lC (.str [114, 101, 102, 117, 115, 101, 100])) (aj (bA (aA (bG ad) (aj (lXAt [ad.a_NoSaying] "thing" (ao 2)) (aj (ao 0) (au)))) (ao 3)) (au))))⟩]) <| qW ad
def t__law_told_atoms (ad : Ad) : LS :=
    aD (lTryV (fun W =>
      aY (lCallX (jM ad) W (aj (ao 0) (au))) 1) [⟨ad.a_NoSaying, [ad.a_NoSaying], some 2, aD (aY (bA (lCB (isiX (.adr ad.a_EarlyError) [(ad.a_NoSaying, true)]) (aj (ao 2) (aj (lC (.adr ad.a_EarlyError)) (au)))) (bA (lCB (isiX (.ty "ValueError") [(ad.a_NoSaying, true)]) (aj (ao 2) (aj (lC (.ty "ValueError")) (au)))) (cM (lCB (isiX (.adr ad.a_NoSuchLetter) [(ad.a_NoSaying, false)]) (aj (ao 2) (aj (lC (.adr ad.a_NoSuchLetter)) (au))))))) 3) <|
    aM (aU (aj (lC (.str [114, 101, 102, 117, 115, 101, 100])) (aj (bA (aA (bG ad) (aj (lXAt [ad.a_NoSaying] "thing" (ao 2)) (aj (ao 0) (au)))) (ao 3)) (au))))⟩]) <|
    aM (aU (aj (lC (.str [116, 111, 108, 100])) (aj (ao 1) (au))))
abbrev N__law_is_read : List Str := ["_law_thing_here", "_law_good", "_law_text_here", "_law_again", "_law_found", "_law_due"]
def t__law_is_read_2 (ad : Ad) : LS :=
    aM (lOp (eqE false) (lCB qU (aj (ao 0) (au))) (ao 2))
def lX (ad : Ad) : LS :=
    aR (lT (ao 1))
      (bY (lBM "list" fL (lOp ixA (ao 4) (lC (.int 1))) (aj (aU (aj (lC (.str [98, 101, 103, 105, 110, 115])) (aj (lC (.str [])) (au)))) (au))))
      (aQ)
def mj (ad : Ad) : LS :=
    aD (aR (cY (lT (aA (bG ad) (aj (ao 4) (aj (ao 5) (au))))))
      (aM (lC (.bl false)))
      (aQ)) <| lX ad
def lY (ad : Ad) : LS :=
    aD (aY (lIf (lT (ao 1)) (aU (aj (lC (.str [116, 111, 108, 100])) (aj (aA (sp__law_atoms ad) (aj (ao 0) (au))) (au)))) (aU (aj (lC (.str [114, 101, 102, 117, 115, 101, 100])) (aj (lC (.bl true)) (au))))) 5) <| mj ad
def rC (ad : Ad) : LS :=
    aD (aY (aA (gJ ad) (aj (ao 0) (au))) 4) <| lY ad
def rF (ad : Ad) : LS :=
    aD (aR (cY (lT (aA (bG ad) (aj (aA (fG ad) (aj (ao 0) (au))) (aj (ao 1) (au))))))
      (aM (lC (.bl false)))
      (aQ)) <| rC ad
def t__law_is_read_1 (ad : Ad) : LS :=
    aD (eE (bW (aj (lC (.int 3)) (au))) (.nm 3)
      (rF ad)) <| t__law_is_read_2 ad
def t__law_is_read_0 (ad : Ad) : LS :=
    aD (eU 1 2 (aj (aA (iI ad) (aj (ao 0) (au))) (aj (lCB qU (aj (ao 0) (au))) (au)))) <| t__law_is_read_1 ad
def t__law_is_read (ad : Ad) : LS :=
    aD (eU 1 2 (aj (aA (iI ad) (aj (ao 0) (au))) (aj (lCB qU (aj (ao 0) (au))) (au)))) <|
    aD (eE (bW (aj (lC (.int 3)) (au))) (.nm 3)
      (aD (aR (cY (lT (aA (bG ad) (aj (aA (fG ad) (aj (ao 0) (au))) (aj (ao 1) (au))))))
      (aM (lC (.bl false)))
      (aQ)) <|
    aD (aY (aA (gJ ad) (aj (ao 0) (au))) 4) <|
    aD (aY (lIf (lT (ao 1)) (aU (aj (lC (.str [116, 111, 108, 100])) (aj (aA (sp__law_atoms ad) (aj (ao 0) (au))) (au)))) (aU (aj (lC (.str [114, 101, 102, 117, 115, 101, 100])) (aj (lC (.bl true)) (au))))) 5) <|
    aD (aR (cY (lT (aA (bG ad) (aj (ao 4) (aj (ao 5) (au))))))
      (aM (lC (.bl false)))
      (aQ)) <|
    aR (lT (ao 1))
      (bY (lBM "list" fL (lOp ixA (ao 4) (lC (.int 1))) (aj (aU (aj (lC (.str [98, 101, 103, 105, 110, 115])) (aj (lC (.str [])) (au)))) (au))))
      (aQ))) <|
    aM (lOp (eqE false) (lCB qU (aj (ao 0) (au))) (ao 2))
abbrev N_law_k39 : List Str := ["_law_script", "_law_bag_here", "_law_turn", "_law_letters", "_law_left", "_law_right", "_law_own", "_law_thing_here"]
def t_law_k39_4 (ad : Ad) : LS :=
    aM (lC (.bl true))
def t_law_k39_3b_0 (ad : Ad) : LS :=
    aR (cY (lT (aA (bG ad) (aj (aA (fG ad) (aj (ao 7) (au))) (aj (lC (.bl false)) (au))))))
      (aM (lC (.bl false)))
      (aQ)
def t_law_k39_3 (ad : Ad) : LS :=
    aD (eE (lIt (aU (aj (ao 6) (aj (aU (aj (lC (.str [107, 101, 112, 116])) (aj (ao 6) (aj (lC (.int 0)) (au))))) (aj (aU (aj (lC (.str [110, 111, 116])) (aj (ao 6) (au)))) (aj (aU (aj (lC (.str [98, 101, 103, 105, 110, 115])) (aj (ao 6) (au)))) (aj (aU (aj (lC (.str [97, 108, 111, 110, 101])) (aj (lC (.str [108, 101, 102, 116])) (aj (ao 6) (au))))) (aj (aU (aj (ao 6) (aj (lC (.int 0)) (aj (lC (.int 0)) (au))))) (au))))))))) (.nm 7)
      (t_law_k39_3b_0 ad)) <| t_law_k39_4 ad
def t_law_k39_2 (ad : Ad) : LS :=
    aD (aY (lMake ad.a_Prices (fK ad) (aj (lDnew) (au))) 6) <| t_law_k39_3 ad
def t_law_k39_1b_2 (ad : Ad) : LS :=
    aR (cY (lT (aA (jP ad) (aj (aA (mD ad) (aj (ao 1) (aj (ao 4) (aj (ao 5) (au))))) (au)))))
      (aM (lC (.bl false)))
      (aQ)
def t_law_k39_1b_1 (ad : Ad) : LS :=
    aD (fQ (aA (mJ ad) (aj (ao 1) (aj (ao 3) (aj (lC (.int 6)) (au))))) (.tp [.nm 4, .nm 5])) <| t_law_k39_1b_2 ad
def t_law_k39_1b_0 (ad : Ad) : LS :=
    aD (aY (aA (jg ad) (aj (ao 1) (au))) 3) <| t_law_k39_1b_1 ad
def t_law_k39_1 (ad : Ad) : LS :=
    aD (eE (bW (aj (lC (.int 12)) (au))) (.nm 2)
      (t_law_k39_1b_0 ad)) <| t_law_k39_2 ad
def t_law_k39_0 (ad : Ad) : LS :=
    aD (aY (aA (qC ad) (aj (ao 0) (au))) 1) <| t_law_k39_1 ad
def t_law_k39 (ad : Ad) : LS :=
    aD (aY (aA (qC ad) (aj (ao 0) (au))) 1) <|
    aD (eE (bW (aj (lC (.int 12)) (au))) (.nm 2)
      (aD (aY (aA (jg ad) (aj (ao 1) (au))) 3) <|
    aD (fQ (aA (mJ ad) (aj (ao 1) (aj (ao 3) (aj (lC (.int 6)) (au))))) (.tp [.nm 4, .nm 5])) <|
    aR (cY (lT (aA (jP ad) (aj (aA (mD ad) (aj (ao 1) (aj (ao 4) (aj (ao 5) (au))))) (au)))))
      (aM (lC (.bl false)))
      (aQ))) <|
    aD (aY (lMake ad.a_Prices (fK ad) (aj (lDnew) (au))) 6) <|
    aD (eE (lIt (aU (aj (ao 6) (aj (aU (aj (lC (.str [107, 101, 112, 116])) (aj (ao 6) (aj (lC (.int 0)) (au))))) (aj (aU (aj (lC (.str [110, 111, 116])) (aj (ao 6) (au)))) (aj (aU (aj (lC (.str [98, 101, 103, 105, 110, 115])) (aj (ao 6) (au)))) (aj (aU (aj (lC (.str [97, 108, 111, 110, 101])) (aj (lC (.str [108, 101, 102, 116])) (aj (ao 6) (au))))) (aj (aU (aj (ao 6) (aj (lC (.int 0)) (aj (lC (.int 0)) (au))))) (au))))))))) (.nm 7)
      (aR (cY (lT (aA (bG ad) (aj (aA (fG ad) (aj (ao 7) (au))) (aj (lC (.bl false)) (au))))))
      (aM (lC (.bl false)))
      (aQ))) <|
    aM (lC (.bl true))
theorem len__law_alike_k39 (ad : Ad) (evs : List EV) (h : EH) (Q : EK) (q : bG ad evs h Q) : evs.length = ["_law_found", "_law_due"].length := by
  obtain ⟨_, _, _, rfl, _⟩ := q; rfl
theorem len__law_told_atoms (ad : Ad) (evs : List EV) (h : EH) (Q : EK) (q : gJ ad evs h Q) : evs.length = ["_law_thing_here"].length := by
  obtain ⟨_, _, rfl, _⟩ := q; rfl
theorem len__law_is_read (ad : Ad) (evs : List EV) (h : EH) (Q : EK) (q : jP ad evs h Q) : evs.length = ["_law_thing_here"].length := by
  obtain ⟨_, _, rfl, _⟩ := q; rfl
theorem pure__law_alike_k39 (ad : Ad) (evs : List EV) (h : EH) (Q : EK) (q : bG ad evs h Q) : lV ad (aN Q) (bJ N__law_alike_k39 evs) h := by
  obtain ⟨v, w, t, rfl, q1, q2, q3, q⟩ := q
  show lV ad (aN Q) [some v, some w] h
  simp only [lV, aD, aY, aM, dO, bY, aR, lOp, ao, lC, lB, lT, bR, lOr, cY, lIf, bA, gD, cM, au, aj, aU, bM, lCB, lBM, lSl, aV, aQ, eE, lIt, bW, dh, fQ, eU, dR, cQ, dB, lLc, jj, jc, aA, bV, gZ, gS, sZ, sS, dX, cA, eQ, fP]
  refine q1 _ ?_
  simp only [if_true]
  refine q2 _ (q3 _ (.inr (.inl (eq_s ?_))))
  simpa using q
theorem isiX_ok {D : EV} {cs : List (Addr × Bool)} {C : Addr} {b : Bool} {r q : Nat} {fs : List (Str × EV)} {h : EH} {P : EK} (e : h[r]? = some (.exv C (some q))) (e2 : h[q]? = some (.xob fs)) (hb : (C, b) ∈ cs) (p : P (.bl b) h) : isiX D cs [.ref r, D] h P := by
  unfold isiX
  refine ⟨rfl, ?_⟩
  simp only [e]
  exact ⟨fun z hz => by cases hz; exact ⟨fs, e2⟩, b, hb, p⟩
theorem pure__law_told_atoms (ad : Ad) (evs : List EV) (h : EH) (Q : EK) (q : gJ ad evs h Q) : t__law_told_atoms ad (aN Q) (bJ N__law_told_atoms evs) h := by
  obtain ⟨v, F, rfl, uv, qn, qs⟩ := q
  obtain ⟨⟨d, u, sh⟩, pr⟩ := uv
  show rA ad (aN Q) [some v, none, none, none] h
  unfold rA
  rw [aD, lTryV]
  intro mk hmk
  rw [aY]
  simp only [lCallX, aj, au, ao, gZ]
  have k0 : aP no1 h (h ++ [mk]) := aP.app _
  have dp : Dp 12 h v := dp_of 12 39 u (pr.le (by decide))
  refine ⟨v, rfl, dp.keep k0, fun an h1 k1 => ⟨k1.at bK, .inl ⟨by simp, fun es q xt => ?_⟩⟩, fun a ea ok r h1 k1 l1 e1 => ?_⟩
  · rcases xt with ⟨rfl, rfl⟩ | ⟨z, _⟩
    · have k2 : aP no1 h (h1 ++ [.xob [("thing", v)], .exv ad.a_NoSaying (some h1.length)]) := (k0.trans k1).trans (aP.app _)
      have e1 : (h1 ++ [EO.xob [("thing", v)], .exv ad.a_NoSaying (some h1.length)])[h1.length]? = some (.xob [("thing", v)]) := by simp
      have e2 : (h1 ++ [EO.xob [("thing", v)], .exv ad.a_NoSaying (some h1.length)])[h1.length + 1]? = some (.exv ad.a_NoSaying (some h1.length)) := by
        rw [List.getElem?_append_right (by omega)]; simp
      generalize (h1 ++ [EO.xob [("thing", v)], .exv ad.a_NoSaying (some h1.length)]) = h2 at k2 e1 e2 ⊢
      simp only [sZ, sS]
      rw [aD, aY]
      simp only [bA, lCB, cM, lC, ao, aj, au, gZ, gS]
      refine isiX_ok (b := true) e2 e1 (by simp) ?_
      simp only [if_true]
      refine isiX_ok (b := true) e2 e1 (by simp) ?_
      simp only [if_true]
      refine isiX_ok (b := false) e2 e1 (by simp) ?_
      simp only [sZ, sS]
      rw [aM]
      simp only [aU, bA, aA, lXAt, lC, ao, aj, au, gZ, gS, e2]
      refine ⟨by simp, _, e1, v, rfl, ?_⟩
      have u2 : U F h2 39 v d := u.keep k2.all
      refine ⟨v, v, _, rfl, fun P p => u2.eqI (by decide) p, fun P p => u_repr u2 sh (by decide) (by decide) p, fun P p => u_repr u2 sh (by decide) (by decide) p, ?_⟩
      simp only [if_true, Bool.not_false]
      exact ⟨by decide, qn an _ k2⟩
    · cases z
  · simp only [sZ, sS]
    unfold qW
    rw [aM]
    simp only [aU, lC, ao, aj, au, gZ, gS]
    exact ⟨by rw [bu]; simp, qs a ea ok r h1 (k0.trans k1) (by simp at l1; omega) e1⟩
theorem says_u {F : Nat → Prop} {h : EH} {l : List Say} (hl : l.length ≤ 1000) (hg : ∀ a ∈ l, a.isAtom = true) : Paired (U F h 1) (l.map Say.e) (l.map Say.D) := by
  induction l with
  | nil => exact .nil
  | cons a l ih =>
    refine .cons ?_ (ih (by simp at hl; omega) fun b hb => hg b (by simp [hb]))
    have u := say_u (F := F) (h := h) a
    have : a.dep = 0 := by
      have := hg a (by simp)
      cases a <;> first | rfl | cases this
    rw [this] at u
    exact u
theorem U.int {F : Nat → Prop} {h : EH} {n : Nat} {i : Int} {d : PyData} (z : U F h n (.int i) d) : d = .int i := by
  cases n with
  | zero => exact z
  | succ n =>
    rcases z with z | ⟨xs, ds, e, _⟩ | ⟨r, xs, ds, e, _⟩ | ⟨r, kvs, ps, e, _⟩
    · exact z
    · cases e
    · cases e
    · cases e
theorem dY.un {k : Nat} {d : PyData} {ds : List PyData} (s : dY k (d :: ds)) : ∃ a b, a + 1 + b ≤ k ∧ shB a d ∧ dY b ds := by
  obtain ⟨x1, x2, x3⟩ := s
  simp only [PyData.showableAll, PyData.leavesShortAll, PyData.weightAll, Bool.and_eq_true] at x1 x2 x3
  exact ⟨_, _, x3, ⟨x1.1, x2.1, Nat.le_refl _⟩, ⟨x1.2, x2.2, Nat.le_refl _⟩⟩
theorem dY.more {k j : Nat} {ds : List PyData} (z : dY k ds) (l : k ≤ j) : dY j ds := ⟨z.1, z.2.1, Nat.le_trans z.2.2 l⟩
theorem lv_sh : ∀ (a : Say) (k : Nat), shB k a.D → dY (k + 1) (a.leaves.map Say.D)
  | .kept i j, k, s => (dY.cons s (dY.nil (k := 0))).more (by omega)
  | .alone b i, k, s => (dY.cons s (dY.nil (k := 0))).more (by omega)
  | .begins t, k, s => (dY.cons s (dY.nil (k := 0))).more (by omega)
  | .neg p, k, s => by
    obtain ⟨a, b, l, _, s2⟩ := s.items.un
    obtain ⟨c, d, l2, s3, _⟩ := s2.un
    exact (lv_sh p c s3).more (by omega)
  | .bin b p q, k, s => by
    obtain ⟨a, b, l, _, s2⟩ := s.items.un
    obtain ⟨c, d, l2, s3, s4⟩ := s2.un
    obtain ⟨e, f, l3, s5, _⟩ := s4.un
    have := ((lv_sh p c s3).app (lv_sh q e s5)).more (j := k + 1) (by omega)
    rw [← List.map_append] at this
    exact this
theorem ded_sh (l : List Say) : ∀ k, dY k (l.map Say.D) → dY k ((lE l).map Say.D) := by
  induction l using snocInd with
  | nil => exact fun k s => s
  | snoc l x ih =>
    intro k s
    rw [List.map_append] at s
    obtain ⟨a, b, l1, s1, s2⟩ := s.split
    rw [sX]
    split
    · exact (ih a s1).more (by omega)
    · rw [List.map_append]
      exact ((ih a s1).app s2).more l1
theorem U.say {F : Nat → Prop} {h : EH} : ∀ (a : Say) (n : Nat) (d : PyData), U F h n a.e d → d = a.D
  | .kept i j, n, d, u => by
    obtain ⟨_, m, _, rfl, rfl, p⟩ := U.tup u
    cases p with | cons a p => cases p with | cons b p => cases p with | cons c p => cases p; rw [U.str a, U.int b, U.int c]; rfl
  | .alone k i, n, d, u => by
    obtain ⟨_, m, _, rfl, rfl, p⟩ := U.tup u
    cases p with | cons a p => cases p with | cons b p => cases p with | cons c p => cases p; rw [U.str a, U.str b, U.int c]; rfl
  | .begins s, n, d, u => by
    obtain ⟨_, m, _, rfl, rfl, p⟩ := U.tup u
    cases p with | cons a p => cases p with | cons b p => cases p; rw [U.str a, U.str b]; rfl
  | .neg q, n, d, u => by
    obtain ⟨_, m, _, rfl, rfl, p⟩ := U.tup u
    cases p with | cons a p => cases p with | cons b p => cases p; rw [U.str a, U.say q _ _ b]; rfl
  | .bin t q r, n, d, u => by
    obtain ⟨_, m, _, rfl, rfl, p⟩ := U.tup u
    cases p with | cons a p => cases p with | cons b p => cases p with | cons c p => cases p; rw [U.str a, U.say q _ _ b, U.say r _ _ c]; rfl
theorem told_alike {ad : Ad} {h : EH} {Q : EK} {l : List Say} {r r2 : Nat} {w : List Nat} (hw : ∀ c ∈ w, c < 16 ^ 8) (lw : w.length ≤ 20) (ll : l.length ≤ 20) (hg : ∀ a ∈ l, a.isAtom = true) {k : Nat} (hk : k ≤ 90000) (hs : dY k (l.map Say.D)) (e : h[r]? = some (.lst (l.map Say.e))) (e2 : h[r2]? = some (.lst (l.map Say.e))) (q : Q (.bl true) h) :
    bG ad [.tup [.str w, .ref r], .tup [.str w, .ref r2]] h Q := by
  have us := fun (F : Nat → Prop) => says_u (F := F) (h := h) (l := l) (by omega) hg
  have u : ∀ r, h[r]? = some (.lst (l.map Say.e)) → U (fun _ => False) h 3 (.tup [.str w, .ref r]) (.tuple [.str (S w), .list (l.map Say.D)]) := fun r e =>
    .inr (.inl ⟨_, _, rfl, by simp, rfl, .cons (.inl rfl) (.cons (.inr (.inr (.inl ⟨r, _, _, rfl, fun z => z, e, rfl, us _⟩))) .nil)⟩)
  have sh : shB 100000 (.tuple [.str (S w), .list (l.map Say.D)]) := by
    have s1 : shB 20 (.str (S w)) := by
      refine ⟨by rw [PyData.showable.eq_3], ?_, ?_⟩
      · simp only [PyData.leavesShort, List.all_eq_true, decide_eq_true_eq]
        exact fun c hc => hw c (by simpa using hc)
      · simp only [PyData.weight]
        simpa using lw
    exact ((dY.cons s1 (dY.cons hs.lst (dY.nil (k := 0)))).tup).more (by omega)
  refine ⟨_, _, _, rfl, fun P p => .inl ⟨.inl ⟨_, _, rfl, rfl, .cons (.inl ⟨rfl, fun xs z => (by rcases z with z | z <;> cases z)⟩) (.cons (.inr (.inr ⟨r, r2, _, _, rfl, rfl, e, e2, prd_self fun x hx => ?_⟩)) .nil)⟩, p⟩, fun P p => u_repr (u r e) sh (by decide) (by decide) p, fun P p => u_repr (u r2 e2) sh (by decide) (by decide) p, q⟩
  obtain ⟨d, _, ud⟩ := pP (us fun _ => False) x hx
  exact (SamE.le (m := 38) (by decide) (U.sam 1 ud)).alk
theorem flat_alike {ad : Ad} {h : EH} {Q : EK} {v : EV} {d : PyData} (u : U (fun _ => False) h 3 v d) (s : shB 5000 d) (q : Q (.bl true) h) : bG ad [v, v] h Q :=
  ⟨v, v, _, rfl, fun P p => u.eqI (by decide) p, fun P p => u_repr u s (by decide) (by decide) p, fun P p => u_repr u s (by decide) (by decide) p, q⟩
theorem bl_alike {ad : Ad} {h : EH} {Q : EK} {b : Bool} (q : Q (.bl true) h) : bG ad [.bl b, .bl b] h Q :=
  flat_alike (d := .bool b) (.inl rfl) ⟨by simp [PyData.showable], by simp [PyData.leavesShort], by simp [PyData.weight]⟩ q
theorem pure__law_is_read (ad : Ad) (evs : List EV) (h : EH) (Q : EK) (q : jP ad evs h Q) : t__law_is_read ad (aN Q) (bJ N__law_is_read evs) h := by
  have sz : sizeLine = 16777216 := bu
  obtain ⟨v, F, rfl, ⟨⟨d, u, sh⟩, pr⟩, q⟩ := q
  have dp : Dp 12 h v := dp_of 12 39 u (pr.le (by decide))
  have dp51 : Dp 51 h v := dp_of 51 39 u (pr.le (by decide))
  have alk := says_alike u dp51
  show t__law_is_read_0 ad (aN Q) [some v, none, none, none, none, none] h
  unfold t__law_is_read_0
  rw [aD, eU]
  simp only [aA, lCB, aj, au, ao, gZ, gS]
  refine ⟨v, F, 39, d, rfl, by decide, u, Nat.le_trans sh.2.2 (by decide), fun h1 k1 => ?_⟩
  rw [alk]
  refine u_repr (u.keep k1.all) sh (by decide) (by decide) ?_
  simp only [sZ, sS]
  unfold t__law_is_read_1
  try dsimp only
  rw [aD, eE]
  simp only [bW, lC, aj, au]
  refine ⟨⟨by decide, by decide⟩, ?_⟩
  refine loop_nat 3 (fun i env h' => aP no1 h h' ∧ ∃ x3 x4 x5, env = [some v, some (.bl (atsV v).isSome), some (.str d.shown.cps.toList), x3, x4, x5]) ?_ ?_ _ _ ⟨k1, none, none, none, rfl⟩
  · rintro env h2 ⟨k2, x3, x4, x5, rfl⟩
    refine ⟨trivial, ?_⟩
    unfold t__law_is_read_2
    try dsimp only
    rw [aM]
    simp only [lOp, lCB, aj, au, ao, gZ, gS]
    refine u_repr (u.keep k2.all) sh (by decide) (by decide) (eq_s ?_)
    rw [decide_eq_true rfl]
    exact q _ k2
  · rintro i env h2 kk hi ⟨k2, x3, x4, x5, rfl⟩ hkk
    refine ⟨trivial, j5 ?_⟩
    simp only [sZ, sS]
    unfold rF
    rw [aD, aR]
    simp only [cY, lT, aA, aj, au, ao, gZ, gS]
    refine ⟨v, rfl, dp.keep k2, fun h3 k3 => bl_alike ?_⟩
    have k03 := k2.trans k3
    simp only [dX, Bool.not_true, Bool.false_eq_true, if_false]
    try refine bB ?_
    unfold rC
    try dsimp only
    rw [aD, aY]
    simp only [aA, aj, au, ao, gZ, gS]
    refine ⟨v, F, rfl, ⟨⟨d, u.keep k03.all, sh⟩, pr⟩, fun an h4 k4 => ?_, fun a ea ok r h4 k4 l4 e4 => ?_⟩
    · have k04 := k03.trans k4
      simp only [an, Option.isSome_none, sZ, sS]
      unfold lY
      try dsimp only
      rw [aD, aY]
      simp only [lIf, lT, aU, lC, aj, au, ao, gZ, gS, dX, Bool.false_eq_true, if_false]
      refine ⟨by rw [sz]; simp, ?_⟩
      simp only [sZ, sS]
      unfold mj
      try dsimp only
      rw [aD, aR]
      simp only [cY, lT, aA, aj, au, ao, gZ, gS]
      refine flat_alike (d := .tuple [.str (S [114, 101, 102, 117, 115, 101, 100]), .bool true]) (.inr (.inl ⟨_, _, rfl, by simp, rfl, .cons (.inl rfl) (.cons (.inl rfl) .nil)⟩)) ⟨by decide, by decide, by decide⟩ ?_
      simp only [dX, Bool.not_true, Bool.false_eq_true, if_false]
      try refine bB ?_
      unfold lX
      try dsimp only
      rw [aR]
      simp only [lT, ao, gZ, gS, dX, Bool.false_eq_true, if_false]
      try refine bB ?_
      exact hkk _ _ ⟨k04, _, _, _, by rw [an]; rfl⟩
    · have k04 := k03.trans k4
      subst ea
      have iss : (atsV a.e).isSome = true := by rw [atsV_of ok]; rfl
      simp only [iss, sZ, sS]
      have hr : h.length ≤ r := Nat.le_trans k03.1 l4
      unfold lY
      try dsimp only
      rw [aD, aY]
      simp only [lIf, lT, aU, aA, lC, aj, au, ao, gZ, gS, dX, if_true]
      have atom := fun b (hb : b ∈ lE a.leaves) => a.leaves_atom b ((dedS_mem _ b).mp hb)
      have d11 : a.dep ≤ 11 := by have := ok.w8; have := a.dep_words; omega
      refine (show gK ad (11 + 1) [a.e] h4 _ from ⟨a, rfl, d11, ok.g, by have := ok.l4; omega, fun r2 h5 k5 l5 e5 => ?_⟩)
      have k05 := k04.trans k5
      have e4' := k5.at e4
      refine ⟨by rw [sz]; simp, ?_⟩
      simp only [sZ, sS]
      unfold mj
      try dsimp only
      rw [aD, aR]
      simp only [cY, lT, aA, aj, au, ao, gZ, gS]
      refine told_alike (by decide) (by decide) (by have := dedS_len a.leaves; have := ok.l4; omega) atom (k := 60001) (by decide) (ded_sh _ _ (lv_sh a _ (by rw [← U.say a _ _ u]; exact sh))) e4' e5 ?_
      simp only [dX, Bool.not_true, Bool.false_eq_true, if_false]
      try refine bB ?_
      unfold lX
      try dsimp only
      rw [aR]
      simp only [lT, ao, gZ, gS, dX, if_true]
      rw [bY]
      simp only [lBM, lOp, aU, lC, aj, au, ao, gZ, gS]
      refine jE at1 ⟨by simp only [isTy, e4'], by rw [sz]; simp, ?_⟩
      simp only [fL, jB, e4']
      refine ⟨by rw [sz, List.length_map]; have := dedS_len a.leaves; have := ok.l4; omega, ?_⟩
      exact hkk _ _ ⟨k05.fresh hr, _, _, _, by rw [iss]⟩
theorem kn_leaf {n : Nat} {g : EH} {v : EV} (p : PrS0 v) (k : Kn g v) (t : ∀ xs, v ≠ .tup xs) : Dp n g v := by
  cases n with
  | zero => exact ⟨k, p.1, p.2⟩
  | succ n => exact ⟨⟨k, p.1, p.2⟩, fun xs e => absurd e (t xs)⟩
theorem pure_law_k39 (ad : Ad) (evs : List EV) (h : EH) (Q : EK) (q : spTop 63 evs h Q) : t_law_k39 ad (aN Q) (bJ N_law_k39 evs) h := by
  have sz : sizeLine = 16777216 := bu
  obtain ⟨ns0, rfl, rfl, hl0, q⟩ := q
  show t_law_k39_0 ad (aN Q) [some (.ref 0), none, none, none, none, none, none, none] _
  unfold t_law_k39_0
  rw [aD, aY]
  refine ⟨ns0, rfl, rfl, hl0, fun b h1 B1 => ?_⟩
  try simp only [sZ, sS]
  unfold t_law_k39_1
  try dsimp only
  rw [aD, eE]
  simp only [bW, lC, aj, au]
  refine ⟨⟨by decide, by decide⟩, ?_⟩
  refine loop_nat 12 (fun i env h' => bQ h' b ∧ ∃ x2 x3 x4 x5, env = [some (.ref 0), some (.ref b), x2, x3, x4, x5, none, none]) ?_ ?_ _ _ ⟨B1, none, none, none, none, rfl⟩
  · rintro env h2 ⟨B2, x2, x3, x4, x5, rfl⟩
    refine ⟨trivial, ?_⟩
    unfold t_law_k39_2
    try dsimp only
    rw [aD, aY]
    refine prs fun r g k2 ty => ?_
    simp only [sZ, sS]
    have kn := kn_obj ty
    unfold t_law_k39_3
    try dsimp only
    rw [aD, eE]
    simp only [lIt, aU, lC, aj, au, ao, gZ, gS]
    refine ⟨by rw [sz]; simp, by rw [sz]; simp, by rw [sz]; simp, by rw [sz]; simp, by rw [sz]; simp, by rw [sz]; simp, ?_⟩
    have own : ∀ n, Dp n g (.ref r) := fun n => kn_leaf prs0_ref kn fun xs e => by cases e
    have int0 : ∀ n, Dp n g (.int 0) := fun n => kn_leaf ⟨fun s e => (by cases e), fun i e => by cases e; decide⟩ (leaf_kn (d := .int 0) rfl) fun xs e => by cases e
    have str : ∀ n (w : List Nat), w.length ≤ 1000 → (∀ c ∈ w, c < 1114112) → Dp n g (.str w) := fun n w l c => kn_leaf ⟨fun s e => (by cases e; exact ⟨l, c⟩), fun i e => by cases e⟩ (leaf_kn (d := .str (S w)) rfl) fun xs e => by cases e
    have tup : ∀ n (xs : List EV), xs.length ≤ 1000 → (∀ x ∈ xs, Dp n g x) → Dp (n + 1) g (.tup xs) := fun n xs l z => ⟨⟨kn_tupA _, prs0_tup.1, prs0_tup.2⟩, fun ys e => by cases e; exact ⟨l, z⟩⟩
    have all : ∀ v ∈ [EV.ref r, EV.tup [EV.str [107, 101, 112, 116], EV.ref r, EV.int 0], EV.tup [EV.str [110, 111, 116], EV.ref r], EV.tup [EV.str [98, 101, 103, 105, 110, 115], EV.ref r], EV.tup [EV.str [97, 108, 111, 110, 101], EV.str [108, 101, 102, 116], EV.ref r], EV.tup [EV.ref r, EV.int 0, EV.int 0]], Dp 12 g v ∧ atsV v = none := by
      intro v hv
      simp only [List.mem_cons, List.not_mem_nil, or_false] at hv
      rcases hv with rfl | rfl | rfl | rfl | rfl | rfl
      · exact ⟨own 12, rfl⟩
      all_goals
        refine ⟨tup 11 _ (by simp) fun x hx => ?_, rfl⟩
        simp only [List.mem_cons, List.not_mem_nil, or_false] at hx
        rcases hx with rfl | hx
        · first | exact own _ | exact str _ _ (by decide) (by decide)
        try rcases hx with rfl | hx
        all_goals first
          | (subst hx; first | exact own _ | exact int0 _ | exact str _ _ (by decide) (by decide))
          | exact own _
          | exact int0 _
          | exact str _ _ (by decide) (by decide)
    refine loop_ind (fun left env h' => aP no1 g h' ∧ (∀ v ∈ left, Dp 12 g v ∧ atsV v = none) ∧ ∃ x7, env = [some (.ref 0), some (.ref b), x2, x3, x4, x5, some (.ref r), x7]) ?_ ?_ _ _ _ ⟨aP.refl, all, none, rfl⟩
    · rintro env h3 ⟨k3, _, x7, rfl⟩
      refine ⟨trivial, ?_⟩
      unfold t_law_k39_4
      try dsimp only
      rw [aM]
      exact q h3
    · rintro v left env h3 kk ⟨k3, hv, x7, rfl⟩ hkk
      refine ⟨trivial, j5 ?_⟩
      simp only [sZ, sS]
      unfold t_law_k39_3b_0
      rw [aR]
      simp only [cY, lT, aA, lC, aj, au, ao, gZ, gS]
      obtain ⟨dv, av⟩ := hv v (by simp)
      refine ⟨v, rfl, dv.keep k3, fun h4 k4 => ?_⟩
      rw [av]
      refine bl_alike ?_
      simp only [dX, Bool.not_true, Bool.false_eq_true, if_false]
      try refine bB ?_
      exact hkk _ _ ⟨k3.trans k4, fun w hw => hv w (by simp [hw]), _, rfl⟩
  · rintro i env h2 kk hi ⟨B2, x2, x3, x4, x5, rfl⟩ hkk
    refine ⟨trivial, j5 ?_⟩
    simp only [sZ, sS]
    unfold t_law_k39_1b_0
    rw [aD, aY]
    simp only [aA, lC, aj, au, ao, gZ, gS]
    refine ⟨b, rfl, B2, fun L ns h3 nd n0 n4 nr k3 l3 e3 B3 => ?_⟩
    simp only [sZ, sS]
    have hb2 := B2.lt
    unfold t_law_k39_1b_1
    try dsimp only
    rw [aD, fQ]
    simp only [aA, lC, aj, au, ao, gZ, gS]
    refine ⟨b, L, 6, ns, rfl, e3, fun e => (by rw [e] at n0; simp at n0), by omega, by omega, by decide, by decide, B3, fun xs ys h4 lx ly _ _ k4 B4 => bind_tp2 ?_⟩
    simp only [sZ, sS]
    unfold t_law_k39_1b_2
    try dsimp only
    rw [aR]
    simp only [cY, lT, aA, aj, au, ao, gZ, gS]
    have hb4 := B4.lt
    refine ⟨b, xs, ys, is1 b, rfl, by omega, by omega, B4, rfl, fun r z => by rw [show r = b from z]; exact hb4, fun u h5 u5 k5 B5 => ⟨u, is1 b, rfl, u5, fun h6 k6 => ?_⟩⟩
    simp only [dX, Bool.not_true, Bool.false_eq_true, if_false]
    try refine bB ?_
    exact hkk _ _ ⟨B5.keep k6.all, _, _, _, _, rfl⟩
abbrev FnP (K : PySem.W.Frag) (x q : Str) (st : Stmt) (f : Addr) (fd : FuncData) : Prop := FunD K x q (defArgs st) (defBody st) (defScope st) [] [] f fd
structure Fs (P : Program) (w : World) (K : PySem.W.Frag) (mg : Str → Option Value) : Type where
  ad : Ad
  f_is_integer : Addr
  d_is_integer : FuncData
  jF : FnP K "is_integer" "is_integer" iT f_is_integer d_is_integer
  g_is_integer : mg "is_integer" = some (.ref f_is_integer)
  f_is_between : Addr
  d_is_between : FuncData
  jA : FnP K "is_between" "is_between" iH f_is_between d_is_between
  g_is_between : mg "is_between" = some (.ref f_is_between)
  f_is_letter : Addr
  d_is_letter : FuncData
  qH : FnP K "is_letter" "is_letter" jt f_is_letter d_is_letter
  g_is_letter : mg "is_letter" = some (.ref f_is_letter)
  f_is_side : Addr
  d_is_side : FuncData
  F_is_side : FnP K "is_side" "is_side" nR f_is_side d_is_side
  g_is_side : mg "is_side" = some (.ref f_is_side)
  f_is_script : Addr
  d_is_script : FuncData
  qF : FnP K "is_script" "is_script" iy f_is_script d_is_script
  g_is_script : mg "is_script" = some (.ref f_is_script)
  f_are_costs : Addr
  d_are_costs : FuncData
  qJ : FnP K "are_costs" "are_costs" ir f_are_costs d_are_costs
  g_are_costs : mg "are_costs" = some (.ref f_are_costs)
  pB : Addr
  d_is_price_table : FuncData
  jk : FnP K "is_price_table" "is_price_table" cZ pB d_is_price_table
  g_is_price_table : mg "is_price_table" = some (.ref pB)
  nW : Addr
  d_Prices___init__ : FuncData
  j9 : FnP K "__init__" "Prices.__init__" cR nW d_Prices___init__
  k_Prices : Mk K ad.a_Prices nW
  i_Prices : IsiOk K ad.a_Prices
  f_is_number : Addr
  d_is_number : FuncData
  kE : FnP K "is_number" "is_number" jw f_is_number d_is_number
  g_is_number : mg "is_number" = some (.ref f_is_number)
  f_has_word : Addr
  d_has_word : FuncData
  nu : FnP K "has_word" "has_word" lH f_has_word d_has_word
  g_has_word : mg "has_word" = some (.ref f_has_word)
  f_is_atom : Addr
  d_is_atom : FuncData
  F_is_atom : FnP K "is_atom" "is_atom" nM f_is_atom d_is_atom
  g_is_atom : mg "is_atom" = some (.ref f_is_atom)
  f_is_joined : Addr
  d_is_joined : FuncData
  qK : FnP K "is_joined" "is_joined" jr f_is_joined d_is_joined
  g_is_joined : mg "is_joined" = some (.ref f_is_joined)
  f_atoms_of : Addr
  d_atoms_of : FuncData
  ni : FnP K "atoms_of" "atoms_of" jC f_atoms_of d_atoms_of
  g_atoms_of : mg "atoms_of" = some (.ref f_atoms_of)
  f_is_saying : Addr
  d_is_saying : FuncData
  kW : FnP K "is_saying" "is_saying" ju f_is_saying d_is_saying
  g_is_saying : mg "is_saying" = some (.ref f_is_saying)
  f_different : Addr
  d_different : FuncData
  qM : FnP K "different" "different" il f_different d_different
  g_different : mg "different" = some (.ref f_different)
  f_atoms__X : Addr
  d_atoms__X : FuncData
  tG : FnP K "atoms" "atoms" iU f_atoms__X d_atoms__X
  g_atoms__X : mg "atoms" = some (.ref f_atoms__X)
  f__law_bag : Addr
  d__law_bag : FuncData
  t8 : FnP K "_law_bag" "_law_bag" jK f__law_bag d__law_bag
  g__law_bag : mg "_law_bag" = some (.ref f__law_bag)
  f__law_take : Addr
  d__law_take : FuncData
  aG : FnP K "_law_take" "_law_take" jn f__law_take d__law_take
  aZ : mg "_law_take" = some (.ref f__law_take)
  f__law_one : Addr
  d__law_one : FuncData
  bD : FnP K "_law_one" "_law_one" lA f__law_one d__law_one
  eO : mg "_law_one" = some (.ref f__law_one)
  f__law_mixed : Addr
  d__law_mixed : FuncData
  o8 : FnP K "_law_mixed" "_law_mixed" gY f__law_mixed d__law_mixed
  g__law_mixed : mg "_law_mixed" = some (.ref f__law_mixed)
  qN : Addr
  d__law_alphabet : FuncData
  jU : FnP K "_law_alphabet" "_law_alphabet" eX qN d__law_alphabet
  g__law_alphabet : mg "_law_alphabet" = some (.ref qN)
  f__law_text : Addr
  d__law_text : FuncData
  lu : FnP K "_law_text" "_law_text" ig f__law_text d__law_text
  g__law_text : mg "_law_text" = some (.ref f__law_text)
  f__law_full : Addr
  d__law_full : FuncData
  lL : FnP K "_law_full" "_law_full" ie f__law_full d__law_full
  g__law_full : mg "_law_full" = some (.ref f__law_full)
  f__law_edited : Addr
  d__law_edited : FuncData
  iV : FnP K "_law_edited" "_law_edited" fY f__law_edited d__law_edited
  g__law_edited : mg "_law_edited" = some (.ref f__law_edited)
  f__law_texts : Addr
  d__law_texts : FuncData
  nZ : FnP K "_law_texts" "_law_texts" iJ f__law_texts d__law_texts
  g__law_texts : mg "_law_texts" = some (.ref f__law_texts)
  f__law_steps : Addr
  d__law_steps : FuncData
  oV : FnP K "_law_steps" "_law_steps" iG f__law_steps d__law_steps
  g__law_steps : mg "_law_steps" = some (.ref f__law_steps)
  f__law_walk : Addr
  d__law_walk : FuncData
  qG : FnP K "_law_walk" "_law_walk" jo f__law_walk d__law_walk
  g__law_walk : mg "_law_walk" = some (.ref f__law_walk)
  f__law_atom : Addr
  d__law_atom : FuncData
  qw : FnP K "_law_atom" "_law_atom" gW f__law_atom d__law_atom
  g__law_atom : mg "_law_atom" = some (.ref f__law_atom)
  iw : Addr
  jY : FuncData
  eG : FnP K "_law_has_begins" "_law_has_begins" cU iw jY
  g__law_has_begins : mg "_law_has_begins" = some (.ref iw)
  oY : Addr
  rR : FuncData
  fV : FnP K "_law_parts" "_law_parts" iz oY rR
  g__law_parts : mg "_law_parts" = some (.ref oY)
  f__law_saying : Addr
  d__law_saying : FuncData
  iW : FnP K "_law_saying" "_law_saying" gj f__law_saying d__law_saying
  g__law_saying : mg "_law_saying" = some (.ref f__law_saying)
  sJ : Addr
  d__law_alike : FuncData
  d7 : FnP K "_law_alike" "_law_alike" fX sJ d__law_alike
  rK : mg "_law_alike" = some (.ref sJ)
  qQ : Addr
  d__law_is_whole : FuncData
  dI : FnP K "_law_is_whole" "_law_is_whole" eV qQ d__law_is_whole
  qR : mg "_law_is_whole" = some (.ref qQ)
  oH : Addr
  sG : FuncData
  jy : FnP K "_law_atoms" "_law_atoms" fW oH sG
  g__law_atoms : mg "_law_atoms" = some (.ref oH)
  oX : Addr
  d__law_odd_values : FuncData
  dZ : FnP K "_law_odd_values" "_law_odd_values" dG oX d__law_odd_values
  g__law_odd_values : mg "_law_odd_values" = some (.ref oX)
  gH : Addr
  jJ : FuncData
  dN : FnP K "_law_bent_saying" "_law_bent_saying" cJ gH jJ
  tU : mg "_law_bent_saying" = some (.ref gH)
  mQ : Addr
  pF : FuncData
  dH : FnP K "_law_counts" "_law_counts" fZ mQ pF
  pU : mg "_law_counts" = some (.ref mQ)
  pA : Addr
  d__law_is_saying : FuncData
  jf : FnP K "_law_is_saying" "_law_is_saying" dU pA d__law_is_saying
  g__law_is_saying : mg "_law_is_saying" = some (.ref pA)
  f__law_thing : Addr
  d__law_thing : FuncData
  oW : FnP K "_law_thing" "_law_thing" g8 f__law_thing d__law_thing
  g__law_thing : mg "_law_thing" = some (.ref f__law_thing)
  oF : Addr
  d__law_told_atoms : FuncData
  iQ : FnP K "_law_told_atoms" "_law_told_atoms" dD oF d__law_told_atoms
  g__law_told_atoms : mg "_law_told_atoms" = some (.ref oF)
  tK : Addr
  d__law_is_read : FuncData
  lF : FnP K "_law_is_read" "_law_is_read" fO tK d__law_is_read
  g__law_is_read : mg "_law_is_read" = some (.ref tK)
  f_law : Addr
  d_law : FuncData
  F_law : FnP K "law" "law" s_law f_law d_law
  g_law : mg "law" = some (.ref f_law)
  g_Prices : mg "Prices" = some (.ref ad.a_Prices)
  sc_Prices : SlX.SCls K ad.a_Prices
  s_Prices_its_costs : ∃ p, SlX.Slot1 K ad.a_Prices "its_costs" p 0
  g_NoSaying : mg "NoSaying" = some (.ref ad.a_NoSaying)
  x_NoSaying : ExcC P K ad.a_NoSaying "thing" "thing"
  g_EarlyError : mg "EarlyError" = some (.ref ad.a_EarlyError)
  g_NoSuchLetter : mg "NoSuchLetter" = some (.ref ad.a_NoSuchLetter)
  X_EarlyError : IsxC K (.ref ad.a_EarlyError) [(ad.a_NoSaying, true)]
  X_NoSuchLetter : IsxC K (.ref ad.a_NoSuchLetter) [(ad.a_NoSaying, false)]
  X_ValueError : IsxC K (.type "ValueError") [(ad.a_NoSaying, true)]
  A_thing : XfAt K [ad.a_NoSaying] "thing"
  V__law_told_atoms : exclV K [(ad.a_NoSaying, [ad.a_NoSaying])] = true
  sysk : SysK K
  n_ValueError : mg "ValueError" = none
  n_abs : mg "abs" = none
  n_all : mg "all" = none
  n_bool : mg "bool" = none
  n_dict : mg "dict" = none
  n_enumerate : mg "enumerate" = none
  n_int : mg "int" = none
  n_isinstance : mg "isinstance" = none
  n_len : mg "len" = none
  n_list : mg "list" = none
  n_range : mg "range" = none
  n_repr : mg "repr" = none
  n_sorted : mg "sorted" = none
  n_str : mg "str" = none
  n_tuple : mg "tuple" = none
  c_ALONE : ∃ t, mg "ALONE" = some (.str (S [97, 108, 111, 110, 101]) t)
  c_BEGINS : ∃ t, mg "BEGINS" = some (.str (S [98, 101, 103, 105, 110, 115]) t)
  c_GREATEST_LETTER : ∃ t, mg "GREATEST_LETTER" = some (.int 1000000000 t)
  c_GREATEST_PRICE : ∃ t, mg "GREATEST_PRICE" = some (.int 9 t)
  c_KEPT : ∃ t, mg "KEPT" = some (.str (S [107, 101, 112, 116]) t)
  a_LENGTHS : Addr
  g_LENGTHS : mg "LENGTHS" = some (.ref a_LENGTHS)
  T_LENGTHS : KTupN K a_LENGTHS [.ktup [.str [110, 111, 116], .int 2], .ktup [.str [97, 110, 100], .int 3], .ktup [.str [111, 114], .int 3]]
  c_MANY_ATOMS : ∃ t, mg "MANY_ATOMS" = some (.int 4 t)
  c_MANY_WORDS : ∃ t, mg "MANY_WORDS" = some (.int 8 t)
  c_NOT : ∃ t, mg "NOT" = some (.str (S [110, 111, 116]) t)
  a_PLAIN : Addr
  g_PLAIN : mg "PLAIN" = some (.ref a_PLAIN)
  T_PLAIN : KTup K a_PLAIN [.int 1, .int 1]
  a_SIDE_WORDS : Addr
  g_SIDE_WORDS : mg "SIDE_WORDS" = some (.ref a_SIDE_WORDS)
  T_SIDE_WORDS : KTup K a_SIDE_WORDS [.str [108, 101, 102, 116], .str [114, 105, 103, 104, 116]]
  c_STEPS : ∃ t, mg "STEPS" = some (.str (S [107, 100, 112]) t)
theorem sc_is_integer : FnScope M_is_integer ["thing"] (defScope iT) := ⟨rfl, rfl, rfl, by decide +kernel, rfl, by decide +kernel, by decide +kernel⟩
theorem b_is_integer {K : PySem.W.Frag} {f : Addr} {fd : FuncData} (F : FnP K "is_integer" "is_integer" iT f fd) : Binds K fd ["thing"] [] := F.bindsN fun _ _ _ _ _ _ us hl => match us, hl with | [_], _ => rfl
theorem sc_is_between : FnScope M_is_between ["thing", "low", "high"] (defScope iH) := ⟨rfl, rfl, rfl, by decide +kernel, rfl, by decide +kernel, by decide +kernel⟩
theorem b_is_between {K : PySem.W.Frag} {f : Addr} {fd : FuncData} (F : FnP K "is_between" "is_between" iH f fd) : Binds K fd ["thing", "low", "high"] [] := F.bindsN fun _ _ _ _ _ _ us hl => match us, hl with | [_, _, _], _ => rfl
theorem sc_is_letter : FnScope M_is_letter ["thing"] (defScope jt) := ⟨rfl, rfl, rfl, by decide +kernel, rfl, by decide +kernel, by decide +kernel⟩
theorem b_is_letter {K : PySem.W.Frag} {f : Addr} {fd : FuncData} (F : FnP K "is_letter" "is_letter" jt f fd) : Binds K fd ["thing"] [] := F.bindsN fun _ _ _ _ _ _ us hl => match us, hl with | [_], _ => rfl
theorem sc_is_side : FnScope M_is_side ["thing"] (defScope nR) := ⟨rfl, rfl, rfl, by decide +kernel, rfl, by decide +kernel, by decide +kernel⟩
theorem b_is_side {K : PySem.W.Frag} {f : Addr} {fd : FuncData} (F : FnP K "is_side" "is_side" nR f fd) : Binds K fd ["thing"] [] := F.bindsN fun _ _ _ _ _ _ us hl => match us, hl with | [_], _ => rfl
theorem sc_is_script : FnScope M_is_script ["thing"] (defScope iy) := ⟨rfl, rfl, rfl, by decide +kernel, rfl, by decide +kernel, by decide +kernel⟩
theorem b_is_script {K : PySem.W.Frag} {f : Addr} {fd : FuncData} (F : FnP K "is_script" "is_script" iy f fd) : Binds K fd ["thing"] [] := F.bindsN fun _ _ _ _ _ _ us hl => match us, hl with | [_], _ => rfl
theorem sc_are_costs : FnScope M_are_costs ["thing"] (defScope ir) := ⟨rfl, rfl, rfl, by decide +kernel, rfl, by decide +kernel, by decide +kernel⟩
theorem b_are_costs {K : PySem.W.Frag} {f : Addr} {fd : FuncData} (F : FnP K "are_costs" "are_costs" ir f fd) : Binds K fd ["thing"] [] := F.bindsN fun _ _ _ _ _ _ us hl => match us, hl with | [_], _ => rfl
theorem jZ : FnScope pC ["thing"] (defScope cZ) := ⟨rfl, rfl, rfl, by decide +kernel, rfl, by decide +kernel, by decide +kernel⟩
theorem b_is_price_table {K : PySem.W.Frag} {f : Addr} {fd : FuncData} (F : FnP K "is_price_table" "is_price_table" cZ f fd) : Binds K fd ["thing"] [] := F.bindsN fun _ _ _ _ _ _ us hl => match us, hl with | [_], _ => rfl
theorem nA : FnScope oZ ["self", "table"] (defScope cR) := ⟨rfl, rfl, rfl, by decide +kernel, rfl, by decide +kernel, by decide +kernel⟩
theorem b_Prices___init__ {K : PySem.W.Frag} {f : Addr} {fd : FuncData} (F : FnP K "__init__" "Prices.__init__" cR f fd) : Binds K fd ["self", "table"] [] := F.bindsN fun _ _ _ _ _ _ us hl => match us, hl with | [_, _], _ => rfl
theorem sc_is_number : FnScope M_is_number ["thing"] (defScope jw) := ⟨rfl, rfl, rfl, by decide +kernel, rfl, by decide +kernel, by decide +kernel⟩
theorem b_is_number {K : PySem.W.Frag} {f : Addr} {fd : FuncData} (F : FnP K "is_number" "is_number" jw f fd) : Binds K fd ["thing"] [] := F.bindsN fun _ _ _ _ _ _ us hl => match us, hl with | [_], _ => rfl
theorem sc_has_word : FnScope M_has_word ["thing"] (defScope lH) := ⟨rfl, rfl, rfl, by decide +kernel, rfl, by decide +kernel, by decide +kernel⟩
theorem b_has_word {K : PySem.W.Frag} {f : Addr} {fd : FuncData} (F : FnP K "has_word" "has_word" lH f fd) : Binds K fd ["thing"] [] := F.bindsN fun _ _ _ _ _ _ us hl => match us, hl with | [_], _ => rfl
theorem sc_is_atom : FnScope M_is_atom ["thing"] (defScope nM) := ⟨rfl, rfl, rfl, by decide +kernel, rfl, by decide +kernel, by decide +kernel⟩
theorem b_is_atom {K : PySem.W.Frag} {f : Addr} {fd : FuncData} (F : FnP K "is_atom" "is_atom" nM f fd) : Binds K fd ["thing"] [] := F.bindsN fun _ _ _ _ _ _ us hl => match us, hl with | [_], _ => rfl
theorem sc_is_joined : FnScope M_is_joined ["thing"] (defScope jr) := ⟨rfl, rfl, rfl, by decide +kernel, rfl, by decide +kernel, by decide +kernel⟩
theorem b_is_joined {K : PySem.W.Frag} {f : Addr} {fd : FuncData} (F : FnP K "is_joined" "is_joined" jr f fd) : Binds K fd ["thing"] [] := F.bindsN fun _ _ _ _ _ _ us hl => match us, hl with | [_], _ => rfl
theorem kY : FnScope M_atoms_of ["thing"] (defScope jC) := ⟨rfl, rfl, rfl, by decide +kernel, rfl, by decide +kernel, by decide +kernel⟩
theorem b_atoms_of {K : PySem.W.Frag} {f : Addr} {fd : FuncData} (F : FnP K "atoms_of" "atoms_of" jC f fd) : Binds K fd ["thing"] [] := F.bindsN fun _ _ _ _ _ _ us hl => match us, hl with | [_], _ => rfl
theorem sc_is_saying : FnScope M_is_saying ["thing"] (defScope ju) := ⟨rfl, rfl, rfl, by decide +kernel, rfl, by decide +kernel, by decide +kernel⟩
theorem b_is_saying {K : PySem.W.Frag} {f : Addr} {fd : FuncData} (F : FnP K "is_saying" "is_saying" ju f fd) : Binds K fd ["thing"] [] := F.bindsN fun _ _ _ _ _ _ us hl => match us, hl with | [_], _ => rfl
theorem rP : FnScope M_different ["some"] (defScope il) := ⟨rfl, rfl, rfl, by decide +kernel, rfl, by decide +kernel, by decide +kernel⟩
theorem b_different {K : PySem.W.Frag} {f : Addr} {fd : FuncData} (F : FnP K "different" "different" il f fd) : Binds K fd ["some"] [] := F.bindsN fun _ _ _ _ _ _ us hl => match us, hl with | [_], _ => rfl
theorem sc_atoms__X : FnScope M_atoms__X ["saying"] (defScope iU) := ⟨rfl, rfl, rfl, by decide +kernel, rfl, by decide +kernel, by decide +kernel⟩
theorem b_atoms__X {K : PySem.W.Frag} {f : Addr} {fd : FuncData} (F : FnP K "atoms" "atoms" iU f fd) : Binds K fd ["saying"] [] := F.bindsN fun _ _ _ _ _ _ us hl => match us, hl with | [_], _ => rfl
theorem sc__law_bag : FnScope M__law_bag ["_law_script"] (defScope jK) := ⟨rfl, rfl, rfl, by decide +kernel, rfl, by decide +kernel, by decide +kernel⟩
theorem b__law_bag {K : PySem.W.Frag} {f : Addr} {fd : FuncData} (F : FnP K "_law_bag" "_law_bag" jK f fd) : Binds K fd ["_law_script"] [] := F.bindsN fun _ _ _ _ _ _ us hl => match us, hl with | [_], _ => rfl
theorem lM : FnScope M__law_take ["_law_bag_here", "_law_many"] (defScope jn) := ⟨rfl, rfl, rfl, by decide +kernel, rfl, by decide +kernel, by decide +kernel⟩
theorem bf {K : PySem.W.Frag} {f : Addr} {fd : FuncData} (F : FnP K "_law_take" "_law_take" jn f fd) : Binds K fd ["_law_bag_here", "_law_many"] [] := F.bindsN fun _ _ _ _ _ _ us hl => match us, hl with | [_, _], _ => rfl
theorem sc__law_one : FnScope M__law_one ["_law_bag_here", "_law_some"] (defScope lA) := ⟨rfl, rfl, rfl, by decide +kernel, rfl, by decide +kernel, by decide +kernel⟩
theorem d8 {K : PySem.W.Frag} {f : Addr} {fd : FuncData} (F : FnP K "_law_one" "_law_one" lA f fd) : Binds K fd ["_law_bag_here", "_law_some"] [] := F.bindsN fun _ _ _ _ _ _ us hl => match us, hl with | [_, _], _ => rfl
theorem sc__law_mixed : FnScope M__law_mixed ["_law_bag_here", "_law_things"] (defScope gY) := ⟨rfl, rfl, rfl, by decide +kernel, rfl, by decide +kernel, by decide +kernel⟩
theorem b__law_mixed {K : PySem.W.Frag} {f : Addr} {fd : FuncData} (F : FnP K "_law_mixed" "_law_mixed" gY f fd) : Binds K fd ["_law_bag_here", "_law_things"] [] := F.bindsN fun _ _ _ _ _ _ us hl => match us, hl with | [_, _], _ => rfl
theorem sc__law_alphabet : FnScope M__law_alphabet ["_law_bag_here"] (defScope eX) := ⟨rfl, rfl, rfl, by decide +kernel, rfl, by decide +kernel, by decide +kernel⟩
theorem b__law_alphabet {K : PySem.W.Frag} {f : Addr} {fd : FuncData} (F : FnP K "_law_alphabet" "_law_alphabet" eX f fd) : Binds K fd ["_law_bag_here"] [] := F.bindsN fun _ _ _ _ _ _ us hl => match us, hl with | [_], _ => rfl
theorem sc__law_text : FnScope M__law_text ["_law_bag_here", "_law_letters", "_law_most"] (defScope ig) := ⟨rfl, rfl, rfl, by decide +kernel, rfl, by decide +kernel, by decide +kernel⟩
theorem b__law_text {K : PySem.W.Frag} {f : Addr} {fd : FuncData} (F : FnP K "_law_text" "_law_text" ig f fd) : Binds K fd ["_law_bag_here", "_law_letters", "_law_most"] [] := F.bindsN fun _ _ _ _ _ _ us hl => match us, hl with | [_, _, _], _ => rfl
theorem sc__law_full : FnScope M__law_full ["_law_bag_here", "_law_letters", "_law_size"] (defScope ie) := ⟨rfl, rfl, rfl, by decide +kernel, rfl, by decide +kernel, by decide +kernel⟩
theorem b__law_full {K : PySem.W.Frag} {f : Addr} {fd : FuncData} (F : FnP K "_law_full" "_law_full" ie f fd) : Binds K fd ["_law_bag_here", "_law_letters", "_law_size"] [] := F.bindsN fun _ _ _ _ _ _ us hl => match us, hl with | [_, _, _], _ => rfl
theorem o5 : FnScope M__law_edited ["_law_bag_here", "_law_text_here", "_law_letters", "_law_most"] (defScope fY) := ⟨rfl, rfl, rfl, by decide +kernel, rfl, by decide +kernel, by decide +kernel⟩
theorem b__law_edited {K : PySem.W.Frag} {f : Addr} {fd : FuncData} (F : FnP K "_law_edited" "_law_edited" fY f fd) : Binds K fd ["_law_bag_here", "_law_text_here", "_law_letters", "_law_most"] [] := F.bindsN fun _ _ _ _ _ _ us hl => match us, hl with | [_, _, _, _], _ => rfl
theorem pM : FnScope M__law_texts ["_law_bag_here", "_law_letters", "_law_most"] (defScope iJ) := ⟨rfl, rfl, rfl, by decide +kernel, rfl, by decide +kernel, by decide +kernel⟩
theorem b__law_texts {K : PySem.W.Frag} {f : Addr} {fd : FuncData} (F : FnP K "_law_texts" "_law_texts" iJ f fd) : Binds K fd ["_law_bag_here", "_law_letters", "_law_most"] [] := F.bindsN fun _ _ _ _ _ _ us hl => match us, hl with | [_, _, _], _ => rfl
theorem sc__law_steps : FnScope M__law_steps ["_law_left", "_law_right", "_law_i", "_law_j"] (defScope iG) := ⟨rfl, rfl, rfl, by decide +kernel, rfl, by decide +kernel, by decide +kernel⟩
theorem b__law_steps {K : PySem.W.Frag} {f : Addr} {fd : FuncData} (F : FnP K "_law_steps" "_law_steps" iG f fd) : Binds K fd ["_law_left", "_law_right", "_law_i", "_law_j"] [] := F.bindsN fun _ _ _ _ _ _ us hl => match us, hl with | [_, _, _, _], _ => rfl
theorem iK : FnScope M__law_walk ["_law_bag_here", "_law_left", "_law_right", "_law_most"] (defScope jo) := ⟨rfl, rfl, rfl, by decide +kernel, rfl, by decide +kernel, by decide +kernel⟩
theorem b__law_walk {K : PySem.W.Frag} {f : Addr} {fd : FuncData} (F : FnP K "_law_walk" "_law_walk" jo f fd) : Binds K fd ["_law_bag_here", "_law_left", "_law_right", "_law_most"] [] := F.bindsN fun _ _ _ _ _ _ us hl => match us, hl with | [_, _, _, _], _ => rfl
theorem lO : FnScope M__law_atom ["_law_bag_here", "_law_left", "_law_right"] (defScope gW) := ⟨rfl, rfl, rfl, by decide +kernel, rfl, by decide +kernel, by decide +kernel⟩
theorem b__law_atom {K : PySem.W.Frag} {f : Addr} {fd : FuncData} (F : FnP K "_law_atom" "_law_atom" gW f fd) : Binds K fd ["_law_bag_here", "_law_left", "_law_right"] [] := F.bindsN fun _ _ _ _ _ _ us hl => match us, hl with | [_, _, _], _ => rfl
theorem nj : FnScope oE ["_law_saying_here"] (defScope cU) := ⟨rfl, rfl, rfl, by decide +kernel, rfl, by decide +kernel, by decide +kernel⟩
theorem b__law_has_begins {K : PySem.W.Frag} {f : Addr} {fd : FuncData} (F : FnP K "_law_has_begins" "_law_has_begins" cU f fd) : Binds K fd ["_law_saying_here"] [] := F.bindsN fun _ _ _ _ _ _ us hl => match us, hl with | [_], _ => rfl
theorem pJ : FnScope M__law_parts ["_law_bag_here", "_law_left", "_law_right", "_law_size"] (defScope iz) := ⟨rfl, rfl, rfl, by decide +kernel, rfl, by decide +kernel, by decide +kernel⟩
theorem b__law_parts {K : PySem.W.Frag} {f : Addr} {fd : FuncData} (F : FnP K "_law_parts" "_law_parts" iz f fd) : Binds K fd ["_law_bag_here", "_law_left", "_law_right", "_law_size"] [] := F.bindsN fun _ _ _ _ _ _ us hl => match us, hl with | [_, _, _, _], _ => rfl
theorem sc__law_saying : FnScope M__law_saying ["_law_bag_here", "_law_left", "_law_right", "_law_size"] (defScope gj) := ⟨rfl, rfl, rfl, by decide +kernel, rfl, by decide +kernel, by decide +kernel⟩
theorem b__law_saying {K : PySem.W.Frag} {f : Addr} {fd : FuncData} (F : FnP K "_law_saying" "_law_saying" gj f fd) : Binds K fd ["_law_bag_here", "_law_left", "_law_right", "_law_size"] [] := F.bindsN fun _ _ _ _ _ _ us hl => match us, hl with | [_, _, _, _], _ => rfl
theorem sc__law_alike : FnScope M__law_alike ["_law_found", "_law_due"] (defScope fX) := ⟨rfl, rfl, rfl, by decide +kernel, rfl, by decide +kernel, by decide +kernel⟩
theorem sH {K : PySem.W.Frag} {f : Addr} {fd : FuncData} (F : FnP K "_law_alike" "_law_alike" fX f fd) : Binds K fd ["_law_found", "_law_due"] [] := F.bindsN fun _ _ _ _ _ _ us hl => match us, hl with | [_, _], _ => rfl
theorem sc__law_is_whole : FnScope M__law_is_whole ["_law_thing_here", "_law_low", "_law_top"] (defScope eV) := ⟨rfl, rfl, rfl, by decide +kernel, rfl, by decide +kernel, by decide +kernel⟩
theorem qO {K : PySem.W.Frag} {f : Addr} {fd : FuncData} (F : FnP K "_law_is_whole" "_law_is_whole" eV f fd) : Binds K fd ["_law_thing_here", "_law_low", "_law_top"] [] := F.bindsN fun _ _ _ _ _ _ us hl => match us, hl with | [_, _, _], _ => rfl
theorem iY : FnScope M__law_atoms ["_law_saying_here"] (defScope fW) := ⟨rfl, rfl, rfl, by decide +kernel, rfl, by decide +kernel, by decide +kernel⟩
theorem b__law_atoms {K : PySem.W.Frag} {f : Addr} {fd : FuncData} (F : FnP K "_law_atoms" "_law_atoms" fW f fd) : Binds K fd ["_law_saying_here"] [] := F.bindsN fun _ _ _ _ _ _ us hl => match us, hl with | [_], _ => rfl
theorem nD : FnScope M__law_odd_values [] (defScope dG) := ⟨rfl, rfl, rfl, by decide +kernel, rfl, by decide +kernel, by decide +kernel⟩
theorem b__law_odd_values {K : PySem.W.Frag} {f : Addr} {fd : FuncData} (F : FnP K "_law_odd_values" "_law_odd_values" dG f fd) : Binds K fd [] [] := F.bindsN fun _ _ _ _ _ _ us hl => match us, hl with | [], _ => rfl
theorem fU : FnScope nJ ["_law_bag_here", "_law_saying_here"] (defScope cJ) := ⟨rfl, rfl, rfl, by decide +kernel, rfl, by decide +kernel, by decide +kernel⟩
theorem tQ {K : PySem.W.Frag} {f : Addr} {fd : FuncData} (F : FnP K "_law_bent_saying" "_law_bent_saying" cJ f fd) : Binds K fd ["_law_bag_here", "_law_saying_here"] [] := F.bindsN fun _ _ _ _ _ _ us hl => match us, hl with | [_, _], _ => rfl
theorem kJ : FnScope M__law_counts ["_law_thing_here", "_law_inside"] (defScope fZ) := ⟨rfl, rfl, rfl, by decide +kernel, rfl, by decide +kernel, by decide +kernel⟩
theorem pH {K : PySem.W.Frag} {f : Addr} {fd : FuncData} (F : FnP K "_law_counts" "_law_counts" fZ f fd) : Binds K fd ["_law_thing_here", "_law_inside"] [] := F.bindsN fun _ _ _ _ _ _ us hl => match us, hl with | [_, _], _ => rfl
theorem sc__law_is_saying : FnScope M__law_is_saying ["_law_thing_here"] (defScope dU) := ⟨rfl, rfl, rfl, by decide +kernel, rfl, by decide +kernel, by decide +kernel⟩
theorem b__law_is_saying {K : PySem.W.Frag} {f : Addr} {fd : FuncData} (F : FnP K "_law_is_saying" "_law_is_saying" dU f fd) : Binds K fd ["_law_thing_here"] [] := F.bindsN fun _ _ _ _ _ _ us hl => match us, hl with | [_], _ => rfl
theorem mK : FnScope M__law_thing ["_law_bag_here", "_law_left", "_law_right"] (defScope g8) := ⟨rfl, rfl, rfl, by decide +kernel, rfl, by decide +kernel, by decide +kernel⟩
theorem b__law_thing {K : PySem.W.Frag} {f : Addr} {fd : FuncData} (F : FnP K "_law_thing" "_law_thing" g8 f fd) : Binds K fd ["_law_bag_here", "_law_left", "_law_right"] [] := F.bindsN fun _ _ _ _ _ _ us hl => match us, hl with | [_, _, _], _ => rfl
theorem jL : FnScope M__law_told_atoms ["_law_thing_here"] (defScope dD) := ⟨rfl, rfl, rfl, by decide +kernel, rfl, by decide +kernel, by decide +kernel⟩
theorem b__law_told_atoms {K : PySem.W.Frag} {f : Addr} {fd : FuncData} (F : FnP K "_law_told_atoms" "_law_told_atoms" dD f fd) : Binds K fd ["_law_thing_here"] [] := F.bindsN fun _ _ _ _ _ _ us hl => match us, hl with | [_], _ => rfl
theorem jO : FnScope M__law_is_read ["_law_thing_here"] (defScope fO) := ⟨rfl, rfl, rfl, by decide +kernel, rfl, by decide +kernel, by decide +kernel⟩
theorem b__law_is_read {K : PySem.W.Frag} {f : Addr} {fd : FuncData} (F : FnP K "_law_is_read" "_law_is_read" fO f fd) : Binds K fd ["_law_thing_here"] [] := F.bindsN fun _ _ _ _ _ _ us hl => match us, hl with | [_], _ => rfl
theorem sc_law : FnScope M_law ["_law_script"] (defScope s_law) := ⟨rfl, rfl, rfl, by decide +kernel, rfl, by decide +kernel, by decide +kernel⟩
section
variable {P : Program} {w : World} {K : PySem.W.Frag} {mg : Str → Option Value} {base : Heap}
abbrev AD (A : Around) (q : Str) (S : Stmt) (s : Shared) (f : Addr) (cdv : Value) : Around := A.deeper (envOfC q (defScope S) s.heap.objs.size f cdv)
abbrev HY (k : Nat) (A : Around) (q : Str) (S : Stmt) (s : Shared) (f : Addr) (cdv : Value) : Prop := Room k (AD A q S s f cdv) ∧ (AD A q S s f cdv).guards = some []
abbrev HYN (k : Nat) (A : Around) (q : Str) (S : Stmt) (s : Shared) (f : Addr) (cdv : Value) : Prop := RoomN k (AD A q S s f cdv) ∧ (AD A q S s f cdv).guards = some []
abbrev LD (P : Program) (w : World) (K : PySem.W.Frag) (mg : Str → Option Value) (base : Heap) (M : List Str) (q : Str) (S : Stmt) (f : Addr) (cdv : Value) (A : Around) (outer : List Env) (s : Shared) (H : Hp) (t : LS) : Prop := LSs (cxOf CX0 P w K mg base M q (defScope S) f cdv A outer s H E0).nox (defBody S) t
variable (T : Fs P w K mg) {f : Addr} {cdv : Value} {A : Around} {outer : List Env} {s : Shared} {H : Hp}
theorem der_is_integer (hy : HY 0 A "is_integer" iT s f cdv) : LD P w K mg base M_is_integer "is_integer" iT f cdv A outer s H (sV T.ad) :=
    aJ (aW (gM (bj pq rfl T.n_isinstance boot_isinstance (ak (aq 0) (ak (ou "int" rfl T.n_int boot_int) (az)))) (jH (le_not (bj pq rfl T.n_isinstance boot_isinstance (ak (aq 0) (ak (ou "bool" rfl T.n_bool boot_bool) (az))))))))
theorem ok_is_integer : FnG P w K mg base 1 T.f_is_integer T.d_is_integer ["thing"] (mG T.ad) :=
  cG T.jF sc_is_integer (len_is_integer T.ad) fun cdv A outer s H hr hG => ⟨_, der_is_integer T ⟨hr, hG⟩, pure_is_integer T.ad⟩
theorem der_is_between (hy : HY 1 A "is_between" iH s f cdv) : LD P w K mg base M_is_between "is_between" iH f cdv A outer s H (rW T.ad) :=
    aJ (aW (gM (aK (ok_is_integer T) (hy.1.mono (by decide)) hy.2 rfl T.g_is_integer T.jF.kp (b_is_integer T.jF) (ak (aq 0) (az))) (jH (le_chain lo_le lo_le (aq 1) (aq 0) (aq 2)))))
theorem ok_is_between : FnG P w K mg base 2 T.f_is_between T.d_is_between ["thing", "low", "high"] (jV T.ad) :=
  cG T.jA sc_is_between (len_is_between T.ad) fun cdv A outer s H hr hG => ⟨_, der_is_between T ⟨hr, hG⟩, pure_is_between T.ad⟩
theorem der_is_letter (hy : HY 2 A "is_letter" jt s f cdv) : LD P w K mg base M_is_letter "is_letter" jt f cdv A outer s H (t_is_letter T.ad) :=
    aJ (aW (aK (ok_is_between T) (hy.1.mono (by decide)) hy.2 rfl T.g_is_between T.jA.kp (b_is_between T.jA) (ak (aq 0) (ak (le_int) (ak (le_gint 1000000000 rfl T.c_GREATEST_LETTER) (az))))))
theorem ok_is_letter : FnG P w K mg base 3 T.f_is_letter T.d_is_letter ["thing"] (rN T.ad) :=
  cG T.qH sc_is_letter (len_is_letter T.ad) fun cdv A outer s H hr hG => ⟨_, der_is_letter T ⟨hr, hG⟩, pure_is_letter T.ad⟩
theorem der_is_side (hy : HY 0 A "is_side" nR s f cdv) : LD P w K mg base M_is_side "is_side" nR f cdv A outer s H (pQ T.ad) :=
    aJ (aW (gM (bj pq rfl T.n_isinstance boot_isinstance (ak (aq 0) (ak (ou "str" rfl T.n_str boot_str) (az)))) (jH (gQ (lo_in (u65 hy.1)) (aq 0) (le_gtup T.T_SIDE_WORDS rfl T.g_SIDE_WORDS)))))
theorem ok_is_side : FnG P w K mg base 1 T.f_is_side T.d_is_side ["thing"] (ji T.ad) :=
  cG T.F_is_side sc_is_side (len_is_side_k11 T.ad) fun cdv A outer s H hr hG => ⟨_, der_is_side T ⟨hr, hG⟩, pure_is_side_k11 T.ad⟩
theorem der_is_script (hy : HY 0 A "is_script" iy s f cdv) : LD P w K mg base M_is_script "is_script" iy f cdv A outer s H (t_is_script T.ad) :=
    aJ (aW (gM (bj pq rfl T.n_isinstance boot_isinstance (ak (aq 0) (ak (ou "str" rfl T.n_str boot_str) (az)))) (jH (bj (lc_all rfl) rfl T.n_all boot_all (ak (le_lc [("sign", 1)] rfl sc_is_script.nd (o7 (aq 0)) (blkOk_by (N := M_is_script) (sc := defScope iy) (by decide +kernel)) (by decide) (fun _ _ _ _ _ => cO 1 sc_is_script.nd) (fun _ _ _ _ _ => lts_nil) (fun _ _ _ _ _ => gQ (lo_in (u65 hy.1)) (aq 1) (le_gstr [107, 100, 112] rfl T.c_STEPS))) (az))))))
theorem ok_is_script : FnG P w K mg base 1 T.f_is_script T.d_is_script ["thing"] (oN T.ad) :=
  cG T.qF sc_is_script (len_is_script T.ad) fun cdv A outer s H hr hG => ⟨_, der_is_script T ⟨hr, hG⟩, pure_is_script T.ad⟩
theorem der_are_costs (hy : HY 2 A "are_costs" ir s f cdv) : LD P w K mg base M_are_costs "are_costs" ir f cdv A outer s H (t_are_costs T.ad) :=
    aF (cH (LWe.lt (lw_or (uf (di (bj pq rfl T.n_isinstance boot_isinstance (ak (aq 0) (ak (ou "tuple" rfl T.n_tuple boot_tuple) (az)))))) (lw_or1 (bh (t7 hy.1.units) (bj iZ rfl T.n_len boot_len (ak (aq 0) (az))) (le_int)))))
      (aJ (aW (rG)))
      (bF)) <|
    aJ (aW (bj (lc_all rfl) rfl T.n_all boot_all (ak (le_lc [("one", 1)] rfl sc_are_costs.nd (o7 (aq 0)) (blkOk_by (N := M_are_costs) (sc := defScope ir) (by decide +kernel)) (by decide) (fun _ _ _ _ _ => cO 1 sc_are_costs.nd) (fun _ _ _ _ _ => lts_nil) (fun _ _ _ _ _ => aK (ok_is_between T) (hy.1.mono (by decide)) hy.2 rfl T.g_is_between T.jA.kp (b_is_between T.jA) (ak (aq 1) (ak (le_int) (ak (le_gint 9 rfl T.c_GREATEST_PRICE) (az)))))) (az))))
theorem ok_are_costs : FnG P w K mg base 3 T.f_are_costs T.d_are_costs ["thing"] (sO T.ad) :=
  cG T.qJ sc_are_costs (len_are_costs T.ad) fun cdv A outer s H hr hG => ⟨_, der_are_costs T ⟨hr, hG⟩, pure_are_costs T.ad⟩
theorem der_is_price_table (hy : HY 3 A "is_price_table" cZ s f cdv) : LD P w K mg base pC "is_price_table" cZ f cdv A outer s H (lQ T.ad) :=
    aF (cH (uf (di (bj pq rfl T.n_isinstance boot_isinstance (ak (aq 0) (ak (ou "dict" rfl T.n_dict boot_dict) (az))))))
      (aJ (aW (rG)))
      (bF)) <|
    aJ (aW (bj (lc_all rfl) rfl T.n_all boot_all (ak (le_lock (le_lc [("letter", 1), ("costs", 2)] rfl jZ.nd (lit_items (aq 0)) (blkOk_by (N := pC) (sc := defScope cZ) (by decide +kernel)) (by decide) (fun _ _ _ _ _ => lg_tup rfl (kh (cO 1 jZ.nd) (kh (cO 2 jZ.nd) (lgs_nil)))) (fun _ _ _ _ _ => lts_nil) (fun _ _ _ _ _ => gM (aK (ok_is_letter T) (hy.1.mono (by decide)) hy.2 rfl T.g_is_letter T.qH.kp (b_is_letter T.qH) (ak (aq 1) (az))) (jH (aK (ok_are_costs T) (hy.1.mono (by decide)) hy.2 rfl T.g_are_costs T.qJ.kp (b_are_costs T.qJ) (ak (aq 2) (az))))))) (az))))
theorem ok_is_price_table : FnG P w K mg base 4 T.pB T.d_is_price_table ["thing"] (j7 T.ad) :=
  cG T.jk jZ (len_is_price_table T.ad) fun cdv A outer s H hr hG => ⟨_, der_is_price_table T ⟨hr, hG⟩, pure_is_price_table T.ad⟩
theorem der_Prices___init__ (hy : HY 4 A "Prices.__init__" cR s f cdv) : LD P w K mg base oZ "Prices.__init__" cR f cdv A outer s H (j8 T.ad) :=
    aF (cH (uf (di (aK (ok_is_price_table T) (hy.1.mono (by decide)) hy.2 rfl T.g_is_price_table T.jk.kp (b_is_price_table T.jk) (ak (aq 1) (az)))))
      (aJ (ls_never))
      (bF)) <|
    aJ (ls_attr (slot1 T.sc_Prices T.s_Prices_its_costs) (aq 0) (le_dc [("letter", 2)] rfl nA.nd (o7 (bj (lc_sorted rfl) rfl T.n_sorted boot_sorted (ak (aq 1) (az)))) (blkOk_by (N := oZ) (sc := defScope cR) (by decide +kernel)) (by decide) (fun _ _ _ _ _ => cO 2 nA.nd) (fun _ _ _ _ _ => lts_one (bh (t7 hy.1.units) (cD (fH (u1 hy.1)) (aq 1) (aq 2)) (le_gtup T.T_PLAIN rfl T.g_PLAIN))) (fun _ _ _ _ _ => aq 2) (fun _ _ _ _ _ => cD (fH (u1 hy.1)) (aq 1) (aq 2))))
theorem ok_Prices___init__ : FnG P w K mg base 5 T.nW T.d_Prices___init__ ["self", "table"] (fK T.ad) :=
  cG T.j9 nA (len_Prices___init__ T.ad) fun cdv A outer s H hr hG => ⟨_, der_Prices___init__ T ⟨hr, hG⟩, pure_Prices___init__ T.ad⟩
theorem der_is_number (hy : HY 1 A "is_number" jw s f cdv) : LD P w K mg base M_is_number "is_number" jw f cdv A outer s H (t_is_number T.ad) :=
    aJ (aW (gM (aK (ok_is_integer T) (hy.1.mono (by decide)) hy.2 rfl T.g_is_integer T.jF.kp (b_is_integer T.jF) (ak (aq 0) (az))) (jH (gQ lo_ge (aq 0) (le_int)))))
theorem ok_is_number : FnG P w K mg base 2 T.f_is_number T.d_is_number ["thing"] (jG T.ad) :=
  cG T.kE sc_is_number (len_is_number T.ad) fun cdv A outer s H hr hG => ⟨_, der_is_number T ⟨hr, hG⟩, pure_is_number T.ad⟩
theorem der_has_word (hy : HY 0 A "has_word" lH s f cdv) : LD P w K mg base M_has_word "has_word" lH f cdv A outer s H (oh T.ad) :=
    aJ (aW (gM (bj pq rfl T.n_isinstance boot_isinstance (ak (aq 0) (ak (ou "tuple" rfl T.n_tuple boot_tuple) (az)))) (gM (gQ lo_gt (bj iZ rfl T.n_len boot_len (ak (aq 0) (az))) (le_int)) (jH (bj pq rfl T.n_isinstance boot_isinstance (ak (cD (fH (u1 hy.1)) (aq 0) (le_int)) (ak (ou "str" rfl T.n_str boot_str) (az))))))))
theorem ok_has_word : FnG P w K mg base 1 T.f_has_word T.d_has_word ["thing"] (gU T.ad) :=
  cG T.nu sc_has_word (len_has_word_k39 T.ad) fun cdv A outer s H hr hG => ⟨_, der_has_word T ⟨hr, hG⟩, pure_has_word_k39 T.ad⟩
theorem der_is_atom (hy : HY 2 A "is_atom" nM s f cdv) : LD P w K mg base M_is_atom "is_atom" nM f cdv A outer s H (t_is_atom_k39 T.ad) :=
    aF (cH (uf (di (aK (ok_has_word T) (hy.1.mono (by decide)) hy.2 rfl T.g_has_word T.nu.kp (b_has_word T.nu) (ak (aq 0) (az)))))
      (aJ (aW (rG)))
      (bF)) <|
    aF (cH (bh (eY hy.1.units) (cD (fH (u1 hy.1)) (aq 0) (le_int)) (le_gstr [98, 101, 103, 105, 110, 115] rfl T.c_BEGINS))
      (aJ (aW (gM (gQ (eY hy.1.units) (bj iZ rfl T.n_len boot_len (ak (aq 0) (az))) (le_int)) (jH (aK (ok_is_script T) (hy.1.mono (by decide)) hy.2 rfl T.g_is_script T.qF.kp (b_is_script T.qF) (ak (cD (fH (u1 hy.1)) (aq 0) (le_int)) (az)))))))
      (bF)) <|
    aF (cH (LWe.lt (lw_or (bh (t7 hy.1.units) (bj iZ rfl T.n_len boot_len (ak (aq 0) (az))) (le_int)) (lw_or1 (uf (di (aK (ok_is_number T) (hy.1.mono (by decide)) hy.2 rfl T.g_is_number T.kE.kp (b_is_number T.kE) (ak (cD (fH (u1 hy.1)) (aq 0) (le_int)) (az))))))))
      (aJ (aW (rG)))
      (bF)) <|
    aJ (aW (le_or (gM (gQ (eY hy.1.units) (cD (fH (u1 hy.1)) (aq 0) (le_int)) (le_gstr [107, 101, 112, 116] rfl T.c_KEPT)) (jH (aK (ok_is_number T) (hy.1.mono (by decide)) hy.2 rfl T.g_is_number T.kE.kp (b_is_number T.kE) (ak (cD (fH (u1 hy.1)) (aq 0) (le_int)) (az))))) (jH (gM (gQ (eY hy.1.units) (cD (fH (u1 hy.1)) (aq 0) (le_int)) (le_gstr [97, 108, 111, 110, 101] rfl T.c_ALONE)) (jH (aK (ok_is_side T) (hy.1.mono (by decide)) hy.2 rfl T.g_is_side T.F_is_side.kp (b_is_side T.F_is_side) (ak (cD (fH (u1 hy.1)) (aq 0) (le_int)) (az))))))))
theorem ok_is_atom : FnG P w K mg base 3 T.f_is_atom T.d_is_atom ["thing"] (kZ T.ad) :=
  cG T.F_is_atom sc_is_atom (len_is_atom_k39 T.ad) fun cdv A outer s H hr hG => ⟨_, der_is_atom T ⟨hr, hG⟩, pure_is_atom_k39 T.ad⟩
theorem der_is_joined (hy : HY 1 A "is_joined" jr s f cdv) : LD P w K mg base M_is_joined "is_joined" jr f cdv A outer s H (mX T.ad) :=
    aJ (aW (gM (aK (ok_has_word T) (hy.1.mono (by decide)) hy.2 rfl T.g_has_word T.nu.kp (b_has_word T.nu) (ak (aq 0) (az))) (jH (gQ (lo_inT (u65 hy.1)) (bO (ak (cD (fH (u1 hy.1)) (aq 0) (le_int)) (ak (bj iZ rfl T.n_len boot_len (ak (aq 0) (az))) (az)))) (le_gtupN T.T_LENGTHS rfl T.g_LENGTHS)))))
theorem ok_is_joined : FnG P w K mg base 2 T.f_is_joined T.d_is_joined ["thing"] (jh T.ad) :=
  cG T.qK sc_is_joined (len_is_joined_k39 T.ad) fun cdv A outer s H hr hG => ⟨_, der_is_joined T ⟨hr, hG⟩, pure_is_joined_k39 T.ad⟩
theorem der_atoms_of (hy : HY 3 A "atoms_of" jC s f cdv) : LD P w K mg base M_atoms_of "atoms_of" jC f cdv A outer s H (t_atoms_of_k39 T.ad) :=
    aF (ls_par3 1 2 3 rfl kY.nd (ak (fD (ak (bO (ak (aq 0) (ak (rG) (az)))) (az))) (ak (fD (az)) (ak (le_int) (az))))) <|
    aF (ls_while PassesOwn.never (bh (lo_neL0 hy.1.units) (aq 1) (fD (az)))
      (aF (ls_asg (le_bm0 PySem.F.plainAttrs_list PySem.F.slot_list_pop PySem.F.type_list_pop mt_pop lm_pop0 (aq 1)) (lg_tup rfl (kh (cO 4 kY.nd) (kh (cO 5 kY.nd) (lgs_nil))))) <|
    aF (cH (di (aK (ok_is_atom T) (hy.1.mono (by decide)) hy.2 rfl T.g_is_atom T.F_is_atom.kp (b_is_atom T.F_is_atom) (ak (aq 4) (az))))
      (aF (mW (le_bm PySem.F.plainAttrs_list PySem.F.slot_list_append PySem.F.type_list_append mt_append nU (aq 2) (ak (aq 4) (az)))) <|
    aJ (cH (LWe.lt (jW (di (aq 5)) (jd (bh (eY hy.1.units) (cD (fH (u1 hy.1)) (aq 4) (le_int)) (le_gstr [98, 101, 103, 105, 110, 115] rfl T.c_BEGINS)))))
      (aJ (aW (lJ)))
      (bF)))
      (aJ (cH (di (aK (ok_is_joined T) (hy.1.mono (by decide)) hy.2 rfl T.g_is_joined T.qK.kp (b_is_joined T.qK) (ak (aq 4) (az))))
      (aF (ls_aug 3 ip_add kY.nd (le_int)) <|
    aJ (mW (le_bm PySem.F.plainAttrs_list PySem.F.slot_list_extend PySem.F.type_list_extend mt_extend lm_extend (aq 1) (ak (le_lc [("part", 6)] rfl kY.nd (o7 (le_rev1 (aq 4))) (blkOk_by (N := M_atoms_of) (sc := defScope jC) (by decide +kernel)) (by decide) (fun _ _ _ _ _ => cO 6 kY.nd) (fun _ _ _ _ _ => lts_nil) (fun _ _ _ _ _ => bO (ak (aq 6) (ak (le_or (aq 5) (jH (gQ (eY hy.1.units) (cD (fH (u1 hy.1)) (aq 4) (le_int)) (le_gstr [110, 111, 116] rfl T.c_NOT)))) (az))))) (az)))))
      (aJ (aW (lJ)))))) <|
    aJ (cH (LWe.lt (lw_or (bh lo_gt (bj iZ rfl T.n_len boot_len (ak (aq 2) (az))) (le_gint 4 rfl T.c_MANY_ATOMS)) (lw_or1 (bh lo_gt (aq 3) (le_gint 8 rfl T.c_MANY_WORDS)))))
      (aJ (aW (lJ)))
      (bF)))) <|
    aJ (aW (aq 2))
theorem ok_atoms_of : FnG P w K mg base 4 T.f_atoms_of T.d_atoms_of ["thing"] (jT T.ad) :=
  cG T.ni kY (len_atoms_of_k39 T.ad) fun cdv A outer s H hr hG => ⟨_, der_atoms_of T ⟨hr, hG⟩, pure_atoms_of_k39 T.ad⟩
theorem der_is_saying (hy : HY 4 A "is_saying" ju s f cdv) : LD P w K mg base M_is_saying "is_saying" ju f cdv A outer s H (mV T.ad) :=
    aJ (aW (gQ lo_notN (aK (ok_atoms_of T) (hy.1.mono (by decide)) hy.2 rfl T.g_atoms_of T.ni.kp (b_atoms_of T.ni) (ak (aq 0) (az))) (lJ)))
theorem ok_is_saying : FnG P w K mg base 5 T.f_is_saying T.d_is_saying ["thing"] (fG T.ad) :=
  cG T.kW sc_is_saying (len_is_saying_k39 T.ad) fun cdv A outer s H hr hG => ⟨_, der_is_saying T ⟨hr, hG⟩, pure_is_saying_k39 T.ad⟩
theorem der_different (hy : HY 0 A "different" il s f cdv) : LD P w K mg base M_different "different" il f cdv A outer s H (t_different T.ad) :=
    aJ (aW (le_lc [("at", 1), ("one", 2)] rfl rP.nd (lit_enum rfl T.n_enumerate (ak (aq 0) (az))) (blkOk_by (N := M_different) (sc := defScope il) (by decide +kernel)) (by decide) (fun _ _ _ _ _ => lg_tup rfl (kh (cO 1 rP.nd) (kh (cO 2 rP.nd) (lgs_nil)))) (fun _ _ _ _ _ => lts_one (bh (lo_nin (u65 hy.1)) (aq 2) (fj (aq 0) (eZ) (fB (aq 1))))) (fun _ _ _ _ _ => aq 2)))
theorem ok_different : FnG P w K mg base 1 T.f_different T.d_different ["some"] (sW T.ad) :=
  cG T.qM rP (len_different T.ad) fun cdv A outer s H hr hG => ⟨_, der_different T ⟨hr, hG⟩, pure_different T.ad⟩
theorem der_atoms__X {E : XK} {W : EW} (hy : HY 4 A "atoms" iU s f cdv) (tk : Takes (cxOf (CX P w) P w K mg base M_atoms__X "atoms" (defScope iU) f cdv A outer s H E) (upX K W)) :
    LSs (cxOf (CX P w) P w K mg base M_atoms__X "atoms" (defScope iU) f cdv A outer s H E) (defBody iU) (oR T.ad W) :=
    aF (cI 1 sc_atoms__X.nd (aK (ok_atoms_of T) (hy.1.mono (by decide)) hy.2 rfl T.g_atoms_of T.ni.kp (b_atoms_of T.ni) (ak (aq 0) (az)))) <|
    aF (cH (bh lo_isN (aq 1) (lJ))
      (aJ (ls_raise T.x_NoSaying tk rfl (hy.1.mono (by decide)) rfl T.g_NoSaying (aq 0)))
      (bF)) <|
    aJ (aW (aK (ok_different T) (hy.1.mono (by decide)) hy.2 rfl T.g_different T.qM.kp (b_different T.qM) (ak (aq 1) (az))))
theorem ok_atoms__X : FnX P w K mg base 5 T.f_atoms__X T.d_atoms__X ["saying"] (jM T.ad) :=
  fnX_of T.tG sc_atoms__X (len_atoms_k39__X T.ad) (fun cdv A outer s H E W hr hG tk => der_atoms__X T ⟨hr, hG⟩ tk) (pure_atoms_k39__X T.ad)
theorem der__law_bag (hy : HY 0 A "_law_bag" jK s f cdv) : LD P w K mg base M__law_bag "_law_bag" jK f cdv A outer s H (t__law_bag T.ad) :=
    aJ (aW (fD (ak (le_int) (ak (le_int) (ak (le_int) (ak (le_lc [("_law_cell", 1)] rfl sc__law_bag.nd (o7 (fj (aq 0) (eZ) (fB (le_int)))) (blkOk_by (N := M__law_bag) (sc := defScope jK) (by decide +kernel)) (by decide) (fun _ _ _ _ _ => cO 1 sc__law_bag.nd) (fun _ _ _ _ _ => lts_nil) (fun _ _ _ _ _ => bj lc_abs rfl T.n_abs boot_abs (ak (aq 1) (az)))) (az)))))))
theorem ok__law_bag : FnG P w K mg base 1 T.f__law_bag T.d__law_bag ["_law_script"] (qC T.ad) :=
  cG T.t8 sc__law_bag (len__law_bag T.ad) fun cdv A outer s H hr hG => ⟨_, der__law_bag T ⟨hr, hG⟩, pure__law_bag T.ad⟩
theorem der__law_take (hy : HY 0 A "_law_take" jn s f cdv) : LD P w K mg base M__law_take "_law_take" jn f cdv A outer s H (t__law_take T.ad) :=
    aF (cH (bh (eY hy.1.units) (cD (fH (u1 hy.1)) (aq 0) (le_int)) (le_int))
      (aF (cI 2 lM.nd (cD (fH (u1 hy.1)) (bT cV (fj (cD (fH (u1 hy.1)) (aq 0) (le_int)) (fB (cD (fH (u1 hy.1)) (aq 0) (le_int))) (eZ)) (fD (ak (le_int) (az)))) (le_int))) <|
    aF (ls_augS ip_add (aq 0) (le_int) (le_int)) <|
    aF (ls_setA (u1 hy.1) (bT lo_mul (aq 2) (fJ sY rfl T.n_int boot_int (ak (gQ lo_ge (aq 2) (bT lo_pow (le_int) (le_int))) (az)))) (aq 0) (le_int)) <|
    aF (cI 3 lM.nd (bT cV (bT cV (bT lo_mul (cD (fH (u1 hy.1)) (aq 0) (le_int)) (le_int)) (bT lo_mod (fJ sY rfl T.n_int boot_int (ak (aq 2) (az))) (le_int))) (bT lo_mul (le_int) (cD (fH (u1 hy.1)) (aq 0) (le_int))))) <|
    aJ (ls_setA (u1 hy.1) (bT lo_mod (fJ sY rfl T.n_int boot_int (ak (aq 3) (az))) (le_int)) (aq 0) (le_int)))
      (bF)) <|
    aF (cH (bh lo_gt (cD (fH (u1 hy.1)) (aq 0) (le_int)) (le_int))
      (aF (cI 4 lM.nd (bT lo_mod (fJ sY rfl T.n_int boot_int (ak (cD (fH (u1 hy.1)) (aq 0) (le_int)) (az))) (aq 1))) <|
    aF (ls_setA (u1 hy.1) (bT lo_fdiv (fJ sY rfl T.n_int boot_int (ak (cD (fH (u1 hy.1)) (aq 0) (le_int)) (az))) (aq 1)) (aq 0) (le_int)) <|
    aJ (aW (aq 4)))
      (bF)) <|
    aF (cI 5 lM.nd (bT lo_mod (fJ sY rfl T.n_int boot_int (ak (bT lo_mul (bT cV (cD (fH (u1 hy.1)) (aq 0) (le_int)) (le_int)) (le_int)) (az))) (le_int))) <|
    aF (cI 6 lM.nd (bT lo_mod (fJ sY rfl T.n_int boot_int (ak (bT lo_mul (bT lo_mod (fJ sY rfl T.n_int boot_int (ak (bT lo_mul (aq 5) (aq 5)) (az))) (le_int)) (le_int)) (az))) (le_int))) <|
    aJ (aW (bT lo_mod (fJ sY rfl T.n_int boot_int (ak (bT lo_fdiv (aq 6) (le_int)) (az))) (aq 1)))
theorem aX : FnG P w K mg base 1 T.f__law_take T.d__law_take ["_law_bag_here", "_law_many"] (aH T.ad) :=
  cG T.aG lM (len__law_take T.ad) fun cdv A outer s H hr hG => ⟨_, der__law_take T ⟨hr, hG⟩, pure__law_take T.ad⟩
theorem der__law_one (hy : HY 1 A "_law_one" lA s f cdv) : LD P w K mg base M__law_one "_law_one" lA f cdv A outer s H (t__law_one T.ad) :=
    aJ (aW (cD (fH (u1 hy.1)) (aq 1) (aK (aX T) (hy.1.mono (by decide)) hy.2 rfl T.aZ T.aG.kp (bf T.aG) (ak (aq 0) (ak (bj iZ rfl T.n_len boot_len (ak (aq 1) (az))) (az))))))
theorem dF : FnG P w K mg base 2 T.f__law_one T.d__law_one ["_law_bag_here", "_law_some"] (bz T.ad) :=
  cG T.bD sc__law_one (len__law_one T.ad) fun cdv A outer s H hr hG => ⟨_, der__law_one T ⟨hr, hG⟩, pure__law_one T.ad⟩
theorem der__law_mixed (hy : HY 1 A "_law_mixed" gY s f cdv) : LD P w K mg base M__law_mixed "_law_mixed" gY f cdv A outer s H (t__law_mixed T.ad) :=
    aF (cI 2 sc__law_mixed.nd (fD (az))) <|
    aF (ls_for PassesOwn.never rfl (o7 (aq 1)) (cO 3 sc__law_mixed.nd)
      (aJ (mW (le_bm PySem.F.plainAttrs_list PySem.F.slot_list_insert PySem.F.type_list_insert mt_insert lm_insert (aq 2) (ak (aK (aX T) (hy.1.mono (by decide)) hy.2 rfl T.aZ T.aG.kp (bf T.aG) (ak (aq 0) (ak (bT cV (bj iZ rfl T.n_len boot_len (ak (aq 2) (az))) (le_int)) (az)))) (ak (aq 3) (az))))))) <|
    aJ (aW (aq 2))
theorem ok__law_mixed : FnG P w K mg base 2 T.f__law_mixed T.d__law_mixed ["_law_bag_here", "_law_things"] (pK T.ad) :=
  cG T.o8 sc__law_mixed (len__law_mixed T.ad) fun cdv A outer s H hr hG => ⟨_, der__law_mixed T ⟨hr, hG⟩, pure__law_mixed T.ad⟩
theorem der__law_alphabet (hy : HY 2 A "_law_alphabet" eX s f cdv) : LD P w K mg base M__law_alphabet "_law_alphabet" eX f cdv A outer s H (t__law_alphabet T.ad) :=
    aJ (aW (fj (aK (ok__law_mixed T) (hy.1.mono (by decide)) hy.2 rfl T.g__law_mixed T.o8.kp (b__law_mixed T.o8) (ak (aq 0) (ak (fD (ak (le_int) (ak (le_int) (ak (le_int) (ak (le_int) (ak (le_int) (ak (le_int) (ak (bT lo_pow (le_int) (le_int)) (az))))))))) (az)))) (eZ) (fB (aK (dF T) (hy.1.mono (by decide)) hy.2 rfl T.eO T.bD.kp (d8 T.bD) (ak (aq 0) (ak (fD (ak (le_int) (ak (le_int) (ak (le_int) (ak (le_int) (ak (le_int) (az))))))) (az)))))))
theorem ok__law_alphabet : FnG P w K mg base 3 T.qN T.d__law_alphabet ["_law_bag_here"] (jg T.ad) :=
  cG T.jU sc__law_alphabet (len__law_alphabet T.ad) fun cdv A outer s H hr hG => ⟨_, der__law_alphabet T ⟨hr, hG⟩, pure__law_alphabet T.ad⟩
theorem der__law_text (hy : HY 2 A "_law_text" ig s f cdv) : LD P w K mg base M__law_text "_law_text" ig f cdv A outer s H (t__law_text T.ad) :=
    aJ (aW (fJ lc_tuple rfl T.n_tuple boot_tuple (ak (le_lc [("_law_k", 3)] rfl sc__law_text.nd (nq rfl T.n_range (ak (aK (aX T) (hy.1.mono (by decide)) hy.2 rfl T.aZ T.aG.kp (bf T.aG) (ak (aq 0) (ak (bT cV (aq 2) (le_int)) (az)))) (az))) (blkOk_by (N := M__law_text) (sc := defScope ig) (by decide +kernel)) (by decide) (fun _ _ _ _ _ => cO 3 sc__law_text.nd) (fun _ _ _ _ _ => lts_nil) (fun _ _ _ _ _ => aK (dF T) (hy.1.mono (by decide)) hy.2 rfl T.eO T.bD.kp (d8 T.bD) (ak (aq 0) (ak (aq 1) (az))))) (az))))
theorem ok__law_text : FnG P w K mg base 3 T.f__law_text T.d__law_text ["_law_bag_here", "_law_letters", "_law_most"] (oO T.ad) :=
  cG T.lu sc__law_text (len__law_text T.ad) fun cdv A outer s H hr hG => ⟨_, der__law_text T ⟨hr, hG⟩, pure__law_text T.ad⟩
theorem der__law_full (hy : HY 2 A "_law_full" ie s f cdv) : LD P w K mg base M__law_full "_law_full" ie f cdv A outer s H (t__law_full T.ad) :=
    aJ (aW (fJ lc_tuple rfl T.n_tuple boot_tuple (ak (le_lc [("_law_k", 3)] rfl sc__law_full.nd (nq rfl T.n_range (ak (aq 2) (az))) (blkOk_by (N := M__law_full) (sc := defScope ie) (by decide +kernel)) (by decide) (fun _ _ _ _ _ => cO 3 sc__law_full.nd) (fun _ _ _ _ _ => lts_nil) (fun _ _ _ _ _ => aK (dF T) (hy.1.mono (by decide)) hy.2 rfl T.eO T.bD.kp (d8 T.bD) (ak (aq 0) (ak (aq 1) (az))))) (az))))
theorem ok__law_full : FnG P w K mg base 3 T.f__law_full T.d__law_full ["_law_bag_here", "_law_letters", "_law_size"] (o9 T.ad) :=
  cG T.lL sc__law_full (len__law_full T.ad) fun cdv A outer s H hr hG => ⟨_, der__law_full T ⟨hr, hG⟩, pure__law_full T.ad⟩
theorem der__law_edited (hy : HY 2 A "_law_edited" fY s f cdv) : LD P w K mg base M__law_edited "_law_edited" fY f cdv A outer s H (pN T.ad) :=
    aF (cI 4 o5.nd (fD (az))) <|
    aF (ls_for PassesOwn.never rfl (o7 (aq 1)) (cO 5 o5.nd)
      (aF (cI 6 o5.nd (aK (aX T) (hy.1.mono (by decide)) hy.2 rfl T.aZ T.aG.kp (bf T.aG) (ak (aq 0) (ak (le_int) (az))))) <|
    aJ (cH (bh (eY hy.1.units) (aq 6) (le_int))
      (aJ (mW (le_bm PySem.F.plainAttrs_list PySem.F.slot_list_extend PySem.F.type_list_extend mt_extend lm_extend (aq 4) (ak (fD (ak (aK (dF T) (hy.1.mono (by decide)) hy.2 rfl T.eO T.bD.kp (d8 T.bD) (ak (aq 0) (ak (aq 2) (az)))) (ak (aq 5) (az)))) (az)))))
      (aJ (cH (bh (eY hy.1.units) (aq 6) (le_int))
      (aJ (mW (le_bm PySem.F.plainAttrs_list PySem.F.slot_list_extend PySem.F.type_list_extend mt_extend lm_extend (aq 4) (ak (fD (ak (aq 5) (ak (aq 5) (az)))) (az)))))
      (aJ (cH (bh (eY hy.1.units) (aq 6) (le_int))
      (aJ (mW (le_bm PySem.F.plainAttrs_list PySem.F.slot_list_append PySem.F.type_list_append mt_append nU (aq 4) (ak (aK (dF T) (hy.1.mono (by decide)) hy.2 rfl T.eO T.bD.kp (d8 T.bD) (ak (aq 0) (ak (aq 2) (az)))) (az)))))
      (aJ (cH (bh lo_gt (aq 6) (le_int))
      (aJ (mW (le_bm PySem.F.plainAttrs_list PySem.F.slot_list_append PySem.F.type_list_append mt_append nU (aq 4) (ak (aq 5) (az)))))
      (bF)))))))))) <|
    aF (cH (bh (eY hy.1.units) (aK (aX T) (hy.1.mono (by decide)) hy.2 rfl T.aZ T.aG.kp (bf T.aG) (ak (aq 0) (ak (le_int) (az)))) (le_int))
      (aJ (mW (le_bm PySem.F.plainAttrs_list PySem.F.slot_list_append PySem.F.type_list_append mt_append nU (aq 4) (ak (aK (dF T) (hy.1.mono (by decide)) hy.2 rfl T.eO T.bD.kp (d8 T.bD) (ak (aq 0) (ak (aq 2) (az)))) (az)))))
      (bF)) <|
    aJ (aW (fJ lc_tuple rfl T.n_tuple boot_tuple (ak (fj (aq 4) (eZ) (fB (aq 3))) (az))))
theorem ok__law_edited : FnG P w K mg base 3 T.f__law_edited T.d__law_edited ["_law_bag_here", "_law_text_here", "_law_letters", "_law_most"] (lg T.ad) :=
  cG T.iV o5 (len__law_edited T.ad) fun cdv A outer s H hr hG => ⟨_, der__law_edited T ⟨hr, hG⟩, pure__law_edited T.ad⟩
theorem der__law_texts (hy : HY 3 A "_law_texts" iJ s f cdv) : LD P w K mg base M__law_texts "_law_texts" iJ f cdv A outer s H (sU T.ad) :=
    aF (cI 3 pM.nd (aK (aX T) (hy.1.mono (by decide)) hy.2 rfl T.aZ T.aG.kp (bf T.aG) (ak (aq 0) (ak (le_int) (az))))) <|
    aF (cH (bh (eY hy.1.units) (aq 3) (le_int))
      (aJ (aW (bO (ak (aK (ok__law_text T) (hy.1.mono (by decide)) hy.2 rfl T.g__law_text T.lu.kp (b__law_text T.lu) (ak (aq 0) (ak (aq 1) (ak (aq 2) (az))))) (ak (aK (ok__law_text T) (hy.1.mono (by decide)) hy.2 rfl T.g__law_text T.lu.kp (b__law_text T.lu) (ak (aq 0) (ak (aq 1) (ak (aq 2) (az))))) (az))))))
      (bF)) <|
    aF (cH (bh (eY hy.1.units) (aq 3) (le_int))
      (aF (cI 4 pM.nd (bT lo_mul (aK (ok__law_full T) (hy.1.mono (by decide)) hy.2 rfl T.g__law_full T.lL.kp (b__law_full T.lL) (ak (aq 0) (ak (aq 1) (ak (bT cV (le_int) (aK (aX T) (hy.1.mono (by decide)) hy.2 rfl T.aZ T.aG.kp (bf T.aG) (ak (aq 0) (ak (le_int) (az))))) (az))))) (bT cV (aq 2) (le_int)))) <|
    aJ (aW (bO (ak (fj (aq 4) (eZ) (fB (aK (aX T) (hy.1.mono (by decide)) hy.2 rfl T.aZ T.aG.kp (bf T.aG) (ak (aq 0) (ak (bT cV (aq 2) (le_int)) (az)))))) (ak (fj (fj (aq 4) (fB (le_int)) (eZ)) (eZ) (fB (aK (aX T) (hy.1.mono (by decide)) hy.2 rfl T.aZ T.aG.kp (bf T.aG) (ak (aq 0) (ak (bT cV (aq 2) (le_int)) (az)))))) (az))))))
      (bF)) <|
    aF (cI 5 pM.nd (aK (ok__law_full T) (hy.1.mono (by decide)) hy.2 rfl T.g__law_full T.lL.kp (b__law_full T.lL) (ak (aq 0) (ak (aq 1) (ak (bT cV (le_int) (aK (aX T) (hy.1.mono (by decide)) hy.2 rfl T.aZ T.aG.kp (bf T.aG) (ak (aq 0) (ak (aq 2) (az))))) (az)))))) <|
    aJ (aW (bO (ak (aK (ok__law_edited T) (hy.1.mono (by decide)) hy.2 rfl T.g__law_edited T.iV.kp (b__law_edited T.iV) (ak (aq 0) (ak (aq 5) (ak (aq 1) (ak (aq 2) (az)))))) (ak (aK (ok__law_edited T) (hy.1.mono (by decide)) hy.2 rfl T.g__law_edited T.iV.kp (b__law_edited T.iV) (ak (aq 0) (ak (aq 5) (ak (aq 1) (ak (aq 2) (az)))))) (az)))))
theorem ok__law_texts : FnG P w K mg base 4 T.f__law_texts T.d__law_texts ["_law_bag_here", "_law_letters", "_law_most"] (mJ T.ad) :=
  cG T.nZ pM (len__law_texts T.ad) fun cdv A outer s H hr hG => ⟨_, der__law_texts T ⟨hr, hG⟩, pure__law_texts T.ad⟩
theorem der__law_steps (hy : HY 0 A "_law_steps" iG s f cdv) : LD P w K mg base M__law_steps "_law_steps" iG f cdv A outer s H (iD T.ad) :=
    aF (cI 4 sc__law_steps.nd (fD (az))) <|
    aF (cH (LWe.lt (jW (bh lo_lt (aq 2) (bj iZ rfl T.n_len boot_len (ak (aq 0) (az)))) (jW (bh lo_lt (aq 3) (bj iZ rfl T.n_len boot_len (ak (aq 1) (az)))) (jd (bh (eY hy.1.units) (cD (fH (u1 hy.1)) (aq 0) (aq 2)) (cD (fH (u1 hy.1)) (aq 1) (aq 3)))))))
      (aJ (mW (le_bm PySem.F.plainAttrs_list PySem.F.slot_list_append PySem.F.type_list_append mt_append nU (aq 4) (ak (le_str [107]) (az)))))
      (bF)) <|
    aF (cH (bh lo_lt (aq 2) (bj iZ rfl T.n_len boot_len (ak (aq 0) (az))))
      (aJ (mW (le_bm PySem.F.plainAttrs_list PySem.F.slot_list_append PySem.F.type_list_append mt_append nU (aq 4) (ak (le_str [100]) (az)))))
      (bF)) <|
    aF (cH (bh lo_lt (aq 3) (bj iZ rfl T.n_len boot_len (ak (aq 1) (az))))
      (aJ (mW (le_bm PySem.F.plainAttrs_list PySem.F.slot_list_append PySem.F.type_list_append mt_append nU (aq 4) (ak (le_str [112]) (az)))))
      (bF)) <|
    aJ (aW (aq 4))
theorem ok__law_steps : FnG P w K mg base 1 T.f__law_steps T.d__law_steps ["_law_left", "_law_right", "_law_i", "_law_j"] (mF T.ad) :=
  cG T.oV sc__law_steps (len__law_steps T.ad) fun cdv A outer s H hr hG => ⟨_, der__law_steps T ⟨hr, hG⟩, pure__law_steps T.ad⟩
theorem der__law_walk (hy : HY 2 A "_law_walk" jo s f cdv) : LD P w K mg base M__law_walk "_law_walk" jo f cdv A outer s H (t__law_walk T.ad) :=
    aF (ls_asg (bO (ak (le_int) (ak (le_int) (ak (le_str []) (az))))) (lg_tup rfl (kh (cO 4 iK.nd) (kh (cO 5 iK.nd) (kh (cO 6 iK.nd) (lgs_nil)))))) <|
    aF (ls_for PassesOwn.never rfl (nq rfl T.n_range (ak (aq 3) (az))) (cO 7 iK.nd)
      (aF (cI 8 iK.nd (aK (ok__law_steps T) (hy.1.mono (by decide)) hy.2 rfl T.g__law_steps T.oV.kp (b__law_steps T.oV) (ak (aq 1) (ak (aq 2) (ak (aq 4) (ak (aq 5) (az))))))) <|
    aJ (cH (bh (t7 hy.1.units) (aq 8) (fD (az)))
      (aF (cI 9 iK.nd (le_if (bh (eY hy.1.units) (aK (aX T) (hy.1.mono (by decide)) hy.2 rfl T.aZ T.aG.kp (bf T.aG) (ak (aq 0) (ak (le_int) (az)))) (le_int)) (cD (fH (u1 hy.1)) (aq 8) (le_int)) (aK (dF T) (hy.1.mono (by decide)) hy.2 rfl T.eO T.bD.kp (d8 T.bD) (ak (aq 0) (ak (aq 8) (az)))))) <|
    aJ (ls_par3 6 4 5 rfl iK.nd (ak (bT cV (aq 6) (aq 9)) (ak (bT cV (aq 4) (fJ sY rfl T.n_int boot_int (ak (gQ (t7 hy.1.units) (aq 9) (le_str [112])) (az)))) (ak (bT cV (aq 5) (fJ sY rfl T.n_int boot_int (ak (gQ (t7 hy.1.units) (aq 9) (le_str [100])) (az)))) (az))))))
      (bF)))) <|
    aJ (aW (aq 6))
theorem ok__law_walk : FnG P w K mg base 3 T.f__law_walk T.d__law_walk ["_law_bag_here", "_law_left", "_law_right", "_law_most"] (oK T.ad) :=
  cG T.qG iK (len__law_walk T.ad) fun cdv A outer s H hr hG => ⟨_, der__law_walk T ⟨hr, hG⟩, pure__law_walk T.ad⟩
theorem der__law_atom (hy : HY 3 A "_law_atom" gW s f cdv) : LD P w K mg base M__law_atom "_law_atom" gW f cdv A outer s H (t__law_atom T.ad) :=
    aF (cI 3 lO.nd (aK (aX T) (hy.1.mono (by decide)) hy.2 rfl T.aZ T.aG.kp (bf T.aG) (ak (aq 0) (ak (le_int) (az))))) <|
    aF (cH (LWe.lt (jW (bh (eY hy.1.units) (aq 3) (le_int)) (jd (bh (t7 hy.1.units) (aq 1) (bO (az))))))
      (aJ (aW (bO (ak (le_str [97, 108, 111, 110, 101]) (ak (le_str [108, 101, 102, 116]) (ak (aK (aX T) (hy.1.mono (by decide)) hy.2 rfl T.aZ T.aG.kp (bf T.aG) (ak (aq 0) (ak (bj iZ rfl T.n_len boot_len (ak (aq 1) (az))) (az)))) (az)))))))
      (bF)) <|
    aF (cH (LWe.lt (jW (bh (eY hy.1.units) (aq 3) (le_int)) (jd (bh (t7 hy.1.units) (aq 2) (bO (az))))))
      (aJ (aW (bO (ak (le_str [97, 108, 111, 110, 101]) (ak (le_str [114, 105, 103, 104, 116]) (ak (aK (aX T) (hy.1.mono (by decide)) hy.2 rfl T.aZ T.aG.kp (bf T.aG) (ak (aq 0) (ak (bj iZ rfl T.n_len boot_len (ak (aq 2) (az))) (az)))) (az)))))))
      (bF)) <|
    aF (cH (LWe.lt (jW (bh lo_gt (aq 3) (le_int)) (jW (bh (t7 hy.1.units) (aq 1) (bO (az))) (jd (bh (t7 hy.1.units) (aq 2) (bO (az)))))))
      (aF (cI 4 lO.nd (aK (aX T) (hy.1.mono (by decide)) hy.2 rfl T.aZ T.aG.kp (bf T.aG) (ak (aq 0) (ak (bj iZ rfl T.n_len boot_len (ak (aq 1) (az))) (az))))) <|
    aF (ls_setLc 5 [("_law_j", 6)] rfl lO.nd (nq rfl T.n_range (ak (bj iZ rfl T.n_len boot_len (ak (aq 2) (az))) (az))) (blkOk_by (N := M__law_atom) (sc := defScope gW) (by decide +kernel)) (by decide) (fun _ _ _ _ _ => cO 6 lO.nd) (fun _ _ _ _ _ => lts_one (bh (eY hy.1.units) (cD (fH (u1 hy.1)) (aq 2) (aq 6)) (cD (fH (u1 hy.1)) (aq 1) (aq 4)))) (fun _ _ _ _ _ => aq 6)) <|
    aF (cI 6 lO.nd (le_if (LWe.lt (jW (bh (t7 hy.1.units) (aq 5) (fD (az))) (jd (bh lo_gt (aK (aX T) (hy.1.mono (by decide)) hy.2 rfl T.aZ T.aG.kp (bf T.aG) (ak (aq 0) (ak (le_int) (az)))) (le_int))))) (aK (dF T) (hy.1.mono (by decide)) hy.2 rfl T.eO T.bD.kp (d8 T.bD) (ak (aq 0) (ak (aq 5) (az)))) (aK (aX T) (hy.1.mono (by decide)) hy.2 rfl T.aZ T.aG.kp (bf T.aG) (ak (aq 0) (ak (bj iZ rfl T.n_len boot_len (ak (aq 2) (az))) (az)))))) <|
    aJ (aW (bO (ak (le_str [107, 101, 112, 116]) (ak (aq 4) (ak (aq 6) (az)))))))
      (bF)) <|
    aJ (aW (bO (ak (le_str [98, 101, 103, 105, 110, 115]) (ak (aK (ok__law_walk T) (hy.1.mono (by decide)) hy.2 rfl T.g__law_walk T.qG.kp (b__law_walk T.qG) (ak (aq 0) (ak (aq 1) (ak (aq 2) (ak (bT cV (le_int) (aK (aX T) (hy.1.mono (by decide)) hy.2 rfl T.aZ T.aG.kp (bf T.aG) (ak (aq 0) (ak (le_int) (az))))) (az)))))) (az)))))
theorem ok__law_atom : FnG P w K mg base 4 T.f__law_atom T.d__law_atom ["_law_bag_here", "_law_left", "_law_right"] (oJ T.ad) :=
  cG T.qw lO (len__law_atom T.ad) fun cdv A outer s H hr hG => ⟨_, der__law_atom T ⟨hr, hG⟩, pure__law_atom T.ad⟩
theorem der__law_has_begins {me : LSp} {dd : Nat} (O__law_has_begins : FnG P w K mg base (0 + dd) T.iw T.jY ["_law_saying_here"] me) (hy : HY (0 + dd) A "_law_has_begins" cU s f cdv) : LD P w K mg base oE "_law_has_begins" cU f cdv A outer s H (j6 T.ad me) :=
    aF (cH (bh (lo_in (u65 hy.1)) (cD (fH (u1 hy.1)) (aq 0) (le_int)) (bO (ak (le_str [107, 101, 112, 116]) (ak (le_str [97, 108, 111, 110, 101]) (ak (le_str [98, 101, 103, 105, 110, 115]) (az))))))
      (aJ (aW (gQ (eY hy.1.units) (cD (fH (u1 hy.1)) (aq 0) (le_int)) (le_str [98, 101, 103, 105, 110, 115]))))
      (bF)) <|
    aJ (aW (gQ (t7 hy.1.units) (le_lc [("_law_part", 1)] rfl nj.nd (o7 (fj (aq 0) (fB (le_int)) (eZ))) (blkOk_by (N := oE) (sc := defScope cU) (by decide +kernel)) (by decide) (fun _ _ _ _ _ => cO 1 nj.nd) (fun _ _ _ _ _ => lts_one (di (aK O__law_has_begins (hy.1.mono (by omega)) hy.2 rfl T.g__law_has_begins T.eG.kp (b__law_has_begins T.eG) (ak (aq 1) (az))))) (fun _ _ _ _ _ => aq 1)) (fD (az))))
theorem rH : ∀ dd : Nat, FnG P w K mg base (0 + dd) T.iw T.jY ["_law_saying_here"] (dC T.ad dd)
  | 0 => fnG_none
  | dd + 1 => cG T.eG nj (len__law_has_begins T.ad dd) fun cdv A outer s H hr hG => ⟨_, der__law_has_begins T (rH dd) ⟨hr, hG⟩, pure__law_has_begins T.ad dd⟩
theorem ok__law_has_begins : FnG P w K mg base 12 T.iw T.jY ["_law_saying_here"] (tZ T.ad) := rH T 12
theorem der__law_parts {me : LSp} {dd : Nat} (O__law_parts : FnG P w K mg base (4 + dd) T.oY T.rR ["_law_bag_here", "_law_left", "_law_right", "_law_size"] me) (hy : HY (4 + dd) A "_law_parts" iz s f cdv) : LD P w K mg base M__law_parts "_law_parts" iz f cdv A outer s H (t__law_parts T.ad me) :=
    aF (cH (bh lo_lt (aq 3) (le_int))
      (aF (cI 4 pJ.nd (aK (ok__law_atom T) (hy.1.mono (by omega)) hy.2 rfl T.g__law_atom T.qw.kp (b__law_atom T.qw) (ak (aq 0) (ak (aq 1) (ak (aq 2) (az)))))) <|
    aJ (aW (le_if (LWe.lt (jW (bh (t7 hy.1.units) (cD (fH (u1 hy.1)) (aq 4) (le_int)) (le_str [98, 101, 103, 105, 110, 115])) (jd (bh (eY hy.1.units) (aK (aX T) (hy.1.mono (by omega)) hy.2 rfl T.aZ T.aG.kp (bf T.aG) (ak (aq 0) (ak (le_int) (az)))) (le_int))))) (bO (ak (le_str [110, 111, 116]) (ak (aq 4) (az)))) (aq 4))))
      (bF)) <|
    aF (ls_par 5 6 rfl pJ.nd (ak (aK (dF T) (hy.1.mono (by omega)) hy.2 rfl T.eO T.bD.kp (d8 T.bD) (ak (aq 0) (ak (fD (ak (le_str [97, 110, 100]) (ak (le_str [111, 114]) (az)))) (az)))) (ak (bT cV (le_int) (aK (aX T) (hy.1.mono (by omega)) hy.2 rfl T.aZ T.aG.kp (bf T.aG) (ak (aq 0) (ak (bT lo_sub (aq 3) (le_int)) (az))))) (az)))) <|
    aF (cI 7 pJ.nd (aK O__law_parts (hy.1.mono (by omega)) hy.2 rfl T.g__law_parts T.fV.kp (b__law_parts T.fV) (ak (aq 0) (ak (aq 1) (ak (aq 2) (ak (aq 6) (az))))))) <|
    aJ (aW (bO (ak (aq 5) (ak (aq 7) (ak (aK O__law_parts (hy.1.mono (by omega)) hy.2 rfl T.g__law_parts T.fV.kp (b__law_parts T.fV) (ak (aq 0) (ak (aq 1) (ak (aq 2) (ak (bT lo_sub (aq 3) (aq 6)) (az)))))) (az))))))
theorem okR__law_parts : ∀ dd : Nat, FnG P w K mg base (4 + dd) T.oY T.rR ["_law_bag_here", "_law_left", "_law_right", "_law_size"] (gG T.ad dd)
  | 0 => fnG_none
  | dd + 1 => cG T.fV pJ (len__law_parts T.ad dd) fun cdv A outer s H hr hG => ⟨_, der__law_parts T (okR__law_parts dd) ⟨hr, hG⟩, pure__law_parts T.ad dd⟩
theorem ok__law_parts : FnG P w K mg base 16 T.oY T.rR ["_law_bag_here", "_law_left", "_law_right", "_law_size"] (sp__law_parts T.ad) := okR__law_parts T 12
theorem der__law_saying (hy : HY 16 A "_law_saying" gj s f cdv) : LD P w K mg base M__law_saying "_law_saying" gj f cdv A outer s H (pG T.ad) :=
    aF (cI 4 sc__law_saying.nd (aK (ok__law_parts T) (hy.1.mono (by decide)) hy.2 rfl T.g__law_parts T.fV.kp (b__law_parts T.fV) (ak (aq 0) (ak (aq 1) (ak (aq 2) (ak (aq 3) (az))))))) <|
    aF (cH (LWe.lt (jW (bh (eY hy.1.units) (aK (aX T) (hy.1.mono (by decide)) hy.2 rfl T.aZ T.aG.kp (bf T.aG) (ak (aq 0) (ak (le_int) (az)))) (le_int)) (jd (uf (di (aK (ok__law_has_begins T) (hy.1.mono (by decide)) hy.2 rfl T.g__law_has_begins T.eG.kp (b__law_has_begins T.eG) (ak (aq 4) (az))))))))
      (aJ (aW (bO (ak (le_str [110, 111, 116]) (ak (aq 4) (az))))))
      (bF)) <|
    aJ (aW (aq 4))
theorem ok__law_saying : FnG P w K mg base 17 T.f__law_saying T.d__law_saying ["_law_bag_here", "_law_left", "_law_right", "_law_size"] (fM T.ad) :=
  cG T.iW sc__law_saying (len__law_saying T.ad) fun cdv A outer s H hr hG => ⟨_, der__law_saying T ⟨hr, hG⟩, pure__law_saying T.ad⟩
theorem der__law_alike (hy : HYN 0 A "_law_alike" fX s f cdv) : LSs (cxN P w K mg base M__law_alike "_law_alike" (defScope fX) f cdv A outer s H).nox (defBody fX) (lV T.ad) :=
    aJ (aW (gM (gQ (lo_eqI hy.1.units) (aq 0) (aq 1)) (jH (gQ (lo_eqI hy.1.units) (bj (lc_reprDD T.sysk hy.2 hy.1.units) rfl T.n_repr boot_repr (ak (aq 0) (az))) (bj (lc_reprDD T.sysk hy.2 hy.1.units) rfl T.n_repr boot_repr (ak (aq 1) (az)))))))
theorem ok__law_alike__N : FnN P w K mg base 1 T.sJ T.d__law_alike ["_law_found", "_law_due"] (bG T.ad) :=
  fnN_of T.d7 sc__law_alike (len__law_alike_k39 T.ad) fun cdv A outer s H hr hG => ⟨_, der__law_alike T ⟨hr, hG⟩, pure__law_alike_k39 T.ad⟩
theorem ok__law_alike : FnG P w K mg base 1 T.sJ T.d__law_alike ["_law_found", "_law_due"] (bG T.ad) := (ok__law_alike__N T).g
theorem der__law_is_whole (hy : HY 0 A "_law_is_whole" eV s f cdv) : LD P w K mg base M__law_is_whole "_law_is_whole" eV f cdv A outer s H (mU T.ad) :=
    aJ (aW (gM (bj pq rfl T.n_isinstance boot_isinstance (ak (aq 0) (ak (ou "int" rfl T.n_int boot_int) (az)))) (gM (le_not (bj pq rfl T.n_isinstance boot_isinstance (ak (aq 0) (ak (ou "bool" rfl T.n_bool boot_bool) (az))))) (jH (le_chain lo_le lo_le (aq 1) (aq 0) (aq 2))))))
theorem pD : FnG P w K mg base 1 T.qQ T.d__law_is_whole ["_law_thing_here", "_law_low", "_law_top"] (cP T.ad) :=
  cG T.dI sc__law_is_whole (len__law_is_whole T.ad) fun cdv A outer s H hr hG => ⟨_, der__law_is_whole T ⟨hr, hG⟩, pure__law_is_whole T.ad⟩
theorem der__law_atoms {me : LSp} {dd : Nat} (O__law_atoms : FnG P w K mg base (0 + dd) T.oH T.sG ["_law_saying_here"] me) (hy : HY (0 + dd) A "_law_atoms" fW s f cdv) : LD P w K mg base M__law_atoms "_law_atoms" fW f cdv A outer s H (t__law_atoms T.ad me) :=
    aF (cH (bh (lo_in (u65 hy.1)) (cD (fH (u1 hy.1)) (aq 0) (le_int)) (bO (ak (le_str [107, 101, 112, 116]) (ak (le_str [97, 108, 111, 110, 101]) (ak (le_str [98, 101, 103, 105, 110, 115]) (ak (le_str [108, 97, 116, 101, 114]) (az)))))))
      (aJ (aW (fD (ak (aq 0) (az)))))
      (bF)) <|
    aF (cI 1 iY.nd (fD (az))) <|
    aF (ls_for PassesOwn.never rfl (o7 (fj (aq 0) (fB (le_int)) (eZ))) (cO 2 iY.nd)
      (aF (cI 3 iY.nd (aK O__law_atoms (hy.1.mono (by omega)) hy.2 rfl T.g__law_atoms T.jy.kp (b__law_atoms T.jy) (ak (aq 2) (az)))) <|
    aJ (cI 1 iY.nd (bT cV (aq 1) (le_lc [("_law_atom_here", 4)] rfl iY.nd (o7 (aq 3)) (blkOk_by (N := M__law_atoms) (sc := defScope fW) (by decide +kernel)) (by decide) (fun _ _ _ _ _ => cO 4 iY.nd) (fun _ _ _ _ _ => lts_one (bh (lo_nin (u65 hy.1)) (aq 4) (aq 1))) (fun _ _ _ _ _ => aq 4)))))) <|
    aJ (aW (aq 1))
theorem okR__law_atoms : ∀ dd : Nat, FnG P w K mg base (0 + dd) T.oH T.sG ["_law_saying_here"] (gK T.ad dd)
  | 0 => fnG_none
  | dd + 1 => cG T.jy iY (len__law_atoms T.ad dd) fun cdv A outer s H hr hG => ⟨_, der__law_atoms T (okR__law_atoms dd) ⟨hr, hG⟩, pure__law_atoms T.ad dd⟩
theorem ok__law_atoms : FnG P w K mg base 12 T.oH T.sG ["_law_saying_here"] (sp__law_atoms T.ad) := okR__law_atoms T 12
theorem der__law_odd_values (hy : HY 0 A "_law_odd_values" dG s f cdv) : LD P w K mg base M__law_odd_values "_law_odd_values" dG f cdv A outer s H (t__law_odd_values T.ad) :=
    aF (cI 0 nD.nd (fD (ak (lJ) (ak (rG) (ak (rG) (ak (bT lo_sub (le_int) (le_int)) (ak (le_int) (ak (le_int) (ak (bT lo_pow (le_int) (le_int)) (ak (bT lo_sub (le_int) (bT lo_pow (le_int) (le_int))) (ak (le_str []) (ak (le_str [107]) (ak (le_str [107, 100, 120]) (ak (le_str [75]) (ak (le_str [32]) (ak (le_str [108, 101, 102, 116]) (ak (le_str [117, 112]) (ak (le_str [76, 101, 102, 116]) (az))))))))))))))))))) <|
    aF (cI 0 nD.nd (bT cV (aq 0) (fD (ak (le_str [110, 111, 116]) (ak (le_str [97, 108, 111, 110, 101]) (ak (le_str [107, 101, 112, 116]) (ak (bO (ak (le_str [107, 101, 112, 116]) (ak (le_int) (ak (le_int) (az))))) (ak (fD (ak (le_str [107, 101, 112, 116]) (ak (le_int) (ak (le_int) (az))))) (ak (bO (ak (le_str [110, 111, 116]) (az))) (az)))))))))) <|
    aJ (aW (bT cV (aq 0) (fD (ak (bO (az)) (ak (fD (az)) (ak (bO (ak (le_int) (az))) (ak (fD (ak (le_int) (ak (le_int) (az)))) (ak (le_dnew) (ak (le_disp (lps_cons (le_int) (le_int) (lps_nil))) (az))))))))))
theorem tW : FnG P w K mg base 1 T.oX T.d__law_odd_values [] (cX T.ad) :=
  cG T.dZ nD (len__law_odd_values T.ad) fun cdv A outer s H hr hG => ⟨_, der__law_odd_values T ⟨hr, hG⟩, pure__law_odd_values T.ad⟩
theorem der__law_bent_saying {me : LSp} {dd : Nat} (O__law_bent_saying : FnG P w K mg base (2 + dd) T.gH T.jJ ["_law_bag_here", "_law_saying_here"] me) (hy : HY (2 + dd) A "_law_bent_saying" cJ s f cdv) : LD P w K mg base nJ "_law_bent_saying" cJ f cdv A outer s H (tE T.ad me) :=
    aF (ls_setLc 2 [("_law_k", 6)] rfl fU.nd (lit_range2 rfl T.n_range (ak (le_int) (ak (bj iZ rfl T.n_len boot_len (ak (aq 1) (az))) (az)))) (blkOk_by (N := nJ) (sc := defScope cJ) (by decide +kernel)) (by decide) (fun _ _ _ _ _ => cO 6 fU.nd) (fun _ _ _ _ _ => lts_one (di (bj pq rfl T.n_isinstance boot_isinstance (ak (cD (fH (u1 hy.1)) (aq 1) (aq 6)) (ak (ou "tuple" rfl T.n_tuple boot_tuple) (az)))))) (fun _ _ _ _ _ => aq 6)) <|
    aF (cH (LWe.lt (jW (bh (t7 hy.1.units) (aq 2) (fD (az))) (jd (bh lo_gt (aK (aX T) (hy.1.mono (by omega)) hy.2 rfl T.aZ T.aG.kp (bf T.aG) (ak (aq 0) (ak (le_int) (az)))) (le_int)))))
      (aF (cI 3 fU.nd (aK (dF T) (hy.1.mono (by omega)) hy.2 rfl T.eO T.bD.kp (d8 T.bD) (ak (aq 0) (ak (aq 2) (az))))) <|
    aJ (aW (bT cV (bT cV (fj (aq 1) (eZ) (fB (aq 3))) (bO (ak (aK O__law_bent_saying (hy.1.mono (by omega)) hy.2 rfl T.tU T.dN.kp (tQ T.dN) (ak (aq 0) (ak (cD (fH (u1 hy.1)) (aq 1) (aq 3)) (az)))) (az)))) (fj (aq 1) (fB (bT cV (aq 3) (le_int))) (eZ)))))
      (bF)) <|
    aF (ls_par3 4 3 5 rfl fU.nd (ak (aK (aX T) (hy.1.mono (by omega)) hy.2 rfl T.aZ T.aG.kp (bf T.aG) (ak (aq 0) (ak (le_int) (az)))) (ak (aK (aX T) (hy.1.mono (by omega)) hy.2 rfl T.aZ T.aG.kp (bf T.aG) (ak (aq 0) (ak (bj iZ rfl T.n_len boot_len (ak (aq 1) (az))) (az)))) (ak (aK (dF T) (hy.1.mono (by omega)) hy.2 rfl T.eO T.bD.kp (d8 T.bD) (ak (aq 0) (ak (le_call0 (tW T) (hy.1.mono (by omega)) hy.2 rfl T.g__law_odd_values T.dZ.kp (b__law_odd_values T.dZ)) (az)))) (az))))) <|
    aF (cH (bh (eY hy.1.units) (aq 4) (le_int))
      (aJ (aW (fJ lc_list rfl T.n_list boot_list (ak (aq 1) (az)))))
      (bF)) <|
    aF (cH (bh (eY hy.1.units) (aq 4) (le_int))
      (aJ (aW (bT cV (fj (aq 1) (eZ) (fB (aq 3))) (fj (aq 1) (fB (bT cV (aq 3) (le_int))) (eZ)))))
      (bF)) <|
    aF (cH (bh (eY hy.1.units) (aq 4) (le_int))
      (aJ (aW (bT cV (bT cV (fj (aq 1) (eZ) (fB (aq 3))) (bO (ak (cD (fH (u1 hy.1)) (aq 1) (aq 3)) (az)))) (fj (aq 1) (fB (aq 3)) (eZ)))))
      (bF)) <|
    aF (cH (bh (eY hy.1.units) (aq 4) (le_int))
      (aJ (aW (bO (ak (le_str [110, 111, 116]) (ak (aq 1) (az))))))
      (bF)) <|
    aF (cH (bh (eY hy.1.units) (aq 4) (le_int))
      (aJ (aW (bT cV (aq 1) (bO (ak (aq 5) (az))))))
      (bF)) <|
    aJ (aW (bT cV (bT cV (fj (aq 1) (eZ) (fB (aq 3))) (bO (ak (aq 5) (az)))) (fj (aq 1) (fB (bT cV (aq 3) (le_int))) (eZ))))
theorem pZ : ∀ dd : Nat, FnG P w K mg base (2 + dd) T.gH T.jJ ["_law_bag_here", "_law_saying_here"] (bZ T.ad dd)
  | 0 => fnG_none
  | dd + 1 => cG T.dN fU (len__law_bent_saying T.ad dd) fun cdv A outer s H hr hG => ⟨_, der__law_bent_saying T (pZ dd) ⟨hr, hG⟩, pure__law_bent_saying T.ad dd⟩
theorem ok__law_bent_saying : FnG P w K mg base 14 T.gH T.jJ ["_law_bag_here", "_law_saying_here"] (lZ T.ad) := pZ T 12
theorem der__law_counts {me : LSp} {dd : Nat} (O__law_counts : FnG P w K mg base (1 + dd) T.mQ T.pF ["_law_thing_here", "_law_inside"] me) (hy : HY (1 + dd) A "_law_counts" fZ s f cdv) : LD P w K mg base M__law_counts "_law_counts" fZ f cdv A outer s H (t__law_counts T.ad me) :=
    aF (cH (LWe.lt (lw_or (uf (di (bj pq rfl T.n_isinstance boot_isinstance (ak (aq 0) (ak (ou "tuple" rfl T.n_tuple boot_tuple) (az)))))) (lw_or1 (bh (eY hy.1.units) (bj iZ rfl T.n_len boot_len (ak (aq 0) (az))) (le_int)))))
      (aJ (aW (lJ)))
      (bF)) <|
    aF (ls_par 2 3 rfl kJ.nd (ak (cD (fH (u1 hy.1)) (aq 0) (le_int)) (ak (bj iZ rfl T.n_len boot_len (ak (aq 0) (az))) (az)))) <|
    aF (cH (LWe.lt (jW (bh (lo_eqS hy.1.units) (aq 2) (le_str [107, 101, 112, 116])) (jd (bh (eY hy.1.units) (aq 3) (le_int)))))
      (aJ (aW (le_if (LWe.lt (jW (di (aK (pD T) (hy.1.mono (by omega)) hy.2 rfl T.qR T.dI.kp (qO T.dI) (ak (cD (fH (u1 hy.1)) (aq 0) (le_int)) (ak (le_int) (ak (bT lo_pow (le_int) (le_int)) (az)))))) (jd (di (aK (pD T) (hy.1.mono (by omega)) hy.2 rfl T.qR T.dI.kp (qO T.dI) (ak (cD (fH (u1 hy.1)) (aq 0) (le_int)) (ak (le_int) (ak (bT lo_pow (le_int) (le_int)) (az))))))))) (bO (ak (le_int) (ak (le_int) (az)))) (lJ))))
      (bF)) <|
    aF (cH (LWe.lt (jW (bh (lo_eqS hy.1.units) (aq 2) (le_str [97, 108, 111, 110, 101])) (jd (bh (eY hy.1.units) (aq 3) (le_int)))))
      (aJ (aW (le_if (LWe.lt (jW (bh (lo_inTS (u65 hy.1)) (cD (fH (u1 hy.1)) (aq 0) (le_int)) (bO (ak (le_str [108, 101, 102, 116]) (ak (le_str [114, 105, 103, 104, 116]) (az))))) (jd (di (aK (pD T) (hy.1.mono (by omega)) hy.2 rfl T.qR T.dI.kp (qO T.dI) (ak (cD (fH (u1 hy.1)) (aq 0) (le_int)) (ak (le_int) (ak (bT lo_pow (le_int) (le_int)) (az))))))))) (bO (ak (le_int) (ak (le_int) (az)))) (lJ))))
      (bF)) <|
    aF (cH (LWe.lt (jW (bh (lo_eqS hy.1.units) (aq 2) (le_str [98, 101, 103, 105, 110, 115])) (jd (bh (eY hy.1.units) (aq 3) (le_int)))))
      (aF (cI 4 kJ.nd (gM (le_not (aq 1)) (gM (bj pq rfl T.n_isinstance boot_isinstance (ak (cD (fH (u1 hy.1)) (aq 0) (le_int)) (ak (ou "str" rfl T.n_str boot_str) (az)))) (jH (gQ (lo_eqS hy.1.units) (le_bm PySem.F.plainAttrs_str PySem.F.slot_str_strip PySem.F.type_str_strip mt_stripChars lm_strip (cD (fH (u1 hy.1)) (aq 0) (le_int)) (ak (le_str [107, 100, 112]) (az))) (le_str [])))))) <|
    aJ (aW (le_if (di (aq 4)) (bO (ak (le_int) (ak (le_int) (az)))) (lJ))))
      (bF)) <|
    aF (cH (LWe.lt (jW (bh (lo_eqS hy.1.units) (aq 2) (le_str [110, 111, 116])) (jd (bh (eY hy.1.units) (aq 3) (le_int)))))
      (aF (cI 5 kJ.nd (aK O__law_counts (hy.1.mono (by omega)) hy.2 rfl T.pU T.dH.kp (pH T.dH) (ak (cD (fH (u1 hy.1)) (aq 0) (le_int)) (ak (rG) (az))))) <|
    aJ (aW (le_if (bh lo_isN (aq 5) (lJ)) (lJ) (bO (ak (cD (fH (u1 hy.1)) (aq 5) (le_int)) (ak (bT cV (cD (fH (u1 hy.1)) (aq 5) (le_int)) (le_int)) (az)))))))
      (bF)) <|
    aF (cH (LWe.lt (jW (LWe.lt (lw_or (bh (lo_eqS hy.1.units) (aq 2) (le_str [97, 110, 100])) (lw_or1 (bh (lo_eqS hy.1.units) (aq 2) (le_str [111, 114]))))) (jd (bh (eY hy.1.units) (aq 3) (le_int)))))
      (aF (ls_par 6 7 rfl kJ.nd (ak (aK O__law_counts (hy.1.mono (by omega)) hy.2 rfl T.pU T.dH.kp (pH T.dH) (ak (cD (fH (u1 hy.1)) (aq 0) (le_int)) (ak (aq 1) (az)))) (ak (aK O__law_counts (hy.1.mono (by omega)) hy.2 rfl T.pU T.dH.kp (pH T.dH) (ak (cD (fH (u1 hy.1)) (aq 0) (le_int)) (ak (aq 1) (az)))) (az)))) <|
    aJ (aW (le_if (LWe.lt (lw_or (bh lo_isN (aq 6) (lJ)) (lw_or1 (bh lo_isN (aq 7) (lJ))))) (lJ) (bO (ak (bT cV (cD (fH (u1 hy.1)) (aq 6) (le_int)) (cD (fH (u1 hy.1)) (aq 7) (le_int))) (ak (bT cV (bT cV (cD (fH (u1 hy.1)) (aq 6) (le_int)) (cD (fH (u1 hy.1)) (aq 7) (le_int))) (le_int)) (az)))))))
      (bF)) <|
    aJ (aW (lJ))
theorem okR__law_counts : ∀ dd : Nat, FnG P w K mg base (1 + dd) T.mQ T.pF ["_law_thing_here", "_law_inside"] (bL T.ad dd)
  | 0 => fnG_none
  | dd + 1 => cG T.dH kJ (len__law_counts T.ad dd) fun cdv A outer s H hr hG => ⟨_, der__law_counts T (okR__law_counts dd) ⟨hr, hG⟩, pure__law_counts T.ad dd⟩
theorem ok__law_counts : FnG P w K mg base 41 T.mQ T.pF ["_law_thing_here", "_law_inside"] (tH T.ad) := okR__law_counts T 40
theorem der__law_is_saying (hy : HY 41 A "_law_is_saying" dU s f cdv) : LD P w K mg base M__law_is_saying "_law_is_saying" dU f cdv A outer s H (t__law_is_saying T.ad) :=
    aF (cI 1 sc__law_is_saying.nd (aK (ok__law_counts T) (hy.1.mono (by decide)) hy.2 rfl T.pU T.dH.kp (pH T.dH) (ak (aq 0) (ak (rG) (az))))) <|
    aJ (aW (gM (gQ lo_notN (aq 1) (lJ)) (gM (gQ lo_le (cD (fH (u1 hy.1)) (aq 1) (le_int)) (le_int)) (jH (gQ lo_le (cD (fH (u1 hy.1)) (aq 1) (le_int)) (le_int))))))
theorem ok__law_is_saying : FnG P w K mg base 42 T.pA T.d__law_is_saying ["_law_thing_here"] (iI T.ad) :=
  cG T.jf sc__law_is_saying (len__law_is_saying T.ad) fun cdv A outer s H hr hG => ⟨_, der__law_is_saying T ⟨hr, hG⟩, pure__law_is_saying T.ad⟩
theorem der__law_thing (hy : HY 17 A "_law_thing" g8 s f cdv) : LD P w K mg base M__law_thing "_law_thing" g8 f cdv A outer s H (t__law_thing T.ad) :=
    aF (ls_par 3 4 rfl mK.nd (ak (aK (aX T) (hy.1.mono (by decide)) hy.2 rfl T.aZ T.aG.kp (bf T.aG) (ak (aq 0) (ak (le_int) (az)))) (ak (aK (ok__law_saying T) (hy.1.mono (by decide)) hy.2 rfl T.g__law_saying T.iW.kp (b__law_saying T.iW) (ak (aq 0) (ak (aq 1) (ak (aq 2) (ak (bT cV (le_int) (aK (aX T) (hy.1.mono (by decide)) hy.2 rfl T.aZ T.aG.kp (bf T.aG) (ak (aq 0) (ak (le_int) (az))))) (az)))))) (az)))) <|
    aF (cH (bh (eY hy.1.units) (aq 3) (le_int))
      (aJ (aW (aq 4)))
      (bF)) <|
    aF (cH (bh (eY hy.1.units) (aq 3) (le_int))
      (aF (cH (bh lo_gt (aK (aX T) (hy.1.mono (by decide)) hy.2 rfl T.aZ T.aG.kp (bf T.aG) (ak (aq 0) (ak (le_int) (az)))) (le_int))
      (aJ (cI 4 mK.nd (bO (ak (le_str [97, 110, 100]) (ak (bO (ak (le_str [107, 101, 112, 116]) (ak (aK (aX T) (hy.1.mono (by decide)) hy.2 rfl T.aZ T.aG.kp (bf T.aG) (ak (aq 0) (ak (le_int) (az)))) (ak (aK (aX T) (hy.1.mono (by decide)) hy.2 rfl T.aZ T.aG.kp (bf T.aG) (ak (aq 0) (ak (le_int) (az)))) (az))))) (ak (bO (ak (le_str [97, 108, 111, 110, 101]) (ak (le_str [114, 105, 103, 104, 116]) (ak (aK (aX T) (hy.1.mono (by decide)) hy.2 rfl T.aZ T.aG.kp (bf T.aG) (ak (aq 0) (ak (le_int) (az)))) (az))))) (az)))))))
      (bF)) <|
    aF (ls_for PassesOwn.never rfl (nq rfl T.n_range (ak (aK (dF T) (hy.1.mono (by decide)) hy.2 rfl T.eO T.bD.kp (d8 T.bD) (ak (aq 0) (ak (fD (ak (le_int) (ak (le_int) (ak (le_int) (ak (le_int) (ak (le_int) (ak (le_int) (az)))))))) (az)))) (az))) (cO 5 mK.nd)
      (aJ (cI 4 mK.nd (bO (ak (le_str [110, 111, 116]) (ak (aq 4) (az))))))) <|
    aJ (aW (aq 4)))
      (bF)) <|
    aF (cH (bh (eY hy.1.units) (aq 3) (le_int))
      (aJ (aW (bO (ak (aK (dF T) (hy.1.mono (by decide)) hy.2 rfl T.eO T.bD.kp (d8 T.bD) (ak (aq 0) (ak (fD (ak (le_str [97, 110, 100]) (ak (le_str [111, 114]) (az)))) (az)))) (ak (aq 4) (ak (aK (ok__law_saying T) (hy.1.mono (by decide)) hy.2 rfl T.g__law_saying T.iW.kp (b__law_saying T.iW) (ak (aq 0) (ak (aq 1) (ak (aq 2) (ak (bT cV (le_int) (aK (aX T) (hy.1.mono (by decide)) hy.2 rfl T.aZ T.aG.kp (bf T.aG) (ak (aq 0) (ak (le_int) (az))))) (az)))))) (az)))))))
      (bF)) <|
    aF (cH (bh (eY hy.1.units) (aq 3) (le_int))
      (aJ (aW (aK (dF T) (hy.1.mono (by decide)) hy.2 rfl T.eO T.bD.kp (d8 T.bD) (ak (aq 0) (ak (le_call0 (tW T) (hy.1.mono (by decide)) hy.2 rfl T.g__law_odd_values T.dZ.kp (b__law_odd_values T.dZ)) (az))))))
      (bF)) <|
    aJ (aW (aK (ok__law_bent_saying T) (hy.1.mono (by decide)) hy.2 rfl T.tU T.dN.kp (tQ T.dN) (ak (aq 0) (ak (aq 4) (az)))))
theorem ok__law_thing : FnG P w K mg base 18 T.f__law_thing T.d__law_thing ["_law_bag_here", "_law_left", "_law_right"] (mD T.ad) :=
  cG T.oW mK (len__law_thing T.ad) fun cdv A outer s H hr hG => ⟨_, der__law_thing T ⟨hr, hG⟩, pure__law_thing T.ad⟩
theorem der__law_told_atoms (hy : HY 5 A "_law_told_atoms" dD s f cdv) : LD P w K mg base M__law_told_atoms "_law_told_atoms" dD f cdv A outer s H (t__law_told_atoms T.ad) :=
    aF (ls_tryV rfl rfl jL.nd rfl (fun W pn xe tk po =>
      aJ (cI 1 jL.nd (le_callX (ok_atoms__X T) tk (hy.1.mono (by decide)) hy.2 rfl T.g_atoms__X T.tG.kp (b_atoms__X T.tG) (ak (aq 0) (az))))) (.named (i := 2) ⟨rfl, by decide, .inl T.g_NoSaying⟩ rfl rfl (fun _ _ => aF (cI 3 jL.nd (gM (bj (lc_isiX T.X_EarlyError) rfl T.n_isinstance boot_isinstance (ak (aq 2) (ak (le_gref T.ad.a_EarlyError rfl T.g_EarlyError) (az)))) (gM (bj (lc_isiXT T.X_ValueError) rfl T.n_isinstance boot_isinstance (ak (aq 2) (ak (ou "ValueError" rfl T.n_ValueError bootX_ValueError) (az)))) (jH (le_not (bj (lc_isiX T.X_NoSuchLetter) rfl T.n_isinstance boot_isinstance (ak (aq 2) (ak (le_gref T.ad.a_NoSuchLetter rfl T.g_NoSuchLetter) (az))))))))) <|
    aJ (aW (bO (ak (le_str [114, 101, 102, 117, 115, 101, 100]) (ak (gM (le_callN (ok__law_alike__N T) (roomS hy.1 (by decide)) hy.2 rfl T.rK T.d7.kp (sH T.d7) (ak (le_xattr T.A_thing (aq 2)) (ak (aq 0) (az)))) (jH (aq 3))) (az)))))) (.nil)) T.V__law_told_atoms) <|
    aJ (aW (bO (ak (le_str [116, 111, 108, 100]) (ak (aq 1) (az)))))
theorem ok__law_told_atoms : FnG P w K mg base 6 T.oF T.d__law_told_atoms ["_law_thing_here"] (gJ T.ad) :=
  cG T.iQ jL (len__law_told_atoms T.ad) fun cdv A outer s H hr hG => ⟨_, der__law_told_atoms T ⟨hr, hG⟩, pure__law_told_atoms T.ad⟩
theorem der__law_is_read (hy : HY 42 A "_law_is_read" fO s f cdv) : LD P w K mg base M__law_is_read "_law_is_read" fO f cdv A outer s H (t__law_is_read T.ad) :=
    aF (ls_par 1 2 rfl jO.nd (ak (aK (ok__law_is_saying T) (hy.1.mono (by decide)) hy.2 rfl T.g__law_is_saying T.jf.kp (b__law_is_saying T.jf) (ak (aq 0) (az))) (ak (bj (lc_reprDD T.sysk hy.2 hy.1.units) rfl T.n_repr boot_repr (ak (aq 0) (az))) (az)))) <|
    aF (ls_for PassesOwn.never rfl (nq rfl T.n_range (ak (le_int) (az))) (cO 3 jO.nd)
      (aF (cH (uf (di (aK (ok__law_alike T) (hy.1.mono (by decide)) hy.2 rfl T.rK T.d7.kp (sH T.d7) (ak (aK (ok_is_saying T) (hy.1.mono (by decide)) hy.2 rfl T.g_is_saying T.kW.kp (b_is_saying T.kW) (ak (aq 0) (az))) (ak (aq 1) (az))))))
      (aJ (aW (rG)))
      (bF)) <|
    aF (cI 4 jO.nd (aK (ok__law_told_atoms T) (hy.1.mono (by decide)) hy.2 rfl T.g__law_told_atoms T.iQ.kp (b__law_told_atoms T.iQ) (ak (aq 0) (az)))) <|
    aF (cI 5 jO.nd (le_if (di (aq 1)) (bO (ak (le_str [116, 111, 108, 100]) (ak (aK (ok__law_atoms T) (hy.1.mono (by decide)) hy.2 rfl T.g__law_atoms T.jy.kp (b__law_atoms T.jy) (ak (aq 0) (az))) (az)))) (bO (ak (le_str [114, 101, 102, 117, 115, 101, 100]) (ak (rG) (az)))))) <|
    aF (cH (uf (di (aK (ok__law_alike T) (hy.1.mono (by decide)) hy.2 rfl T.rK T.d7.kp (sH T.d7) (ak (aq 4) (ak (aq 5) (az))))))
      (aJ (aW (rG)))
      (bF)) <|
    aJ (cH (di (aq 1))
      (aJ (mW (le_bm PySem.F.plainAttrs_list PySem.F.slot_list_append PySem.F.type_list_append mt_append nU (cD (fH (u1 hy.1)) (aq 4) (le_int)) (ak (bO (ak (le_str [98, 101, 103, 105, 110, 115]) (ak (le_str []) (az)))) (az)))))
      (bF)))) <|
    aJ (aW (gQ (eY hy.1.units) (bj (lc_reprDD T.sysk hy.2 hy.1.units) rfl T.n_repr boot_repr (ak (aq 0) (az))) (aq 2)))
theorem ok__law_is_read : FnG P w K mg base 43 T.tK T.d__law_is_read ["_law_thing_here"] (jP T.ad) :=
  cG T.lF jO (len__law_is_read T.ad) fun cdv A outer s H hr hG => ⟨_, der__law_is_read T ⟨hr, hG⟩, pure__law_is_read T.ad⟩
theorem der_law (hy : HY 43 A "law" s_law s f cdv) : LD P w K mg base M_law "law" s_law f cdv A outer s H (t_law_k39 T.ad) :=
    aF (cI 1 sc_law.nd (aK (ok__law_bag T) (hy.1.mono (by decide)) hy.2 rfl T.g__law_bag T.t8.kp (b__law_bag T.t8) (ak (aq 0) (az)))) <|
    aF (ls_for PassesOwn.never rfl (nq rfl T.n_range (ak (le_int) (az))) (cO 2 sc_law.nd)
      (aF (cI 3 sc_law.nd (aK (ok__law_alphabet T) (hy.1.mono (by decide)) hy.2 rfl T.g__law_alphabet T.jU.kp (b__law_alphabet T.jU) (ak (aq 1) (az)))) <|
    aF (ls_asg (aK (ok__law_texts T) (hy.1.mono (by decide)) hy.2 rfl T.g__law_texts T.nZ.kp (b__law_texts T.nZ) (ak (aq 1) (ak (aq 3) (ak (le_int) (az))))) (lg_tup rfl (kh (cO 4 sc_law.nd) (kh (cO 5 sc_law.nd) (lgs_nil))))) <|
    aJ (cH (uf (di (aK (ok__law_is_read T) (hy.1.mono (by decide)) hy.2 rfl T.g__law_is_read T.lF.kp (b__law_is_read T.lF) (ak (aK (ok__law_thing T) (hy.1.mono (by decide)) hy.2 rfl T.g__law_thing T.oW.kp (b__law_thing T.oW) (ak (aq 1) (ak (aq 4) (ak (aq 5) (az))))) (az)))))
      (aJ (aW (rG)))
      (bF)))) <|
    aF (cI 6 sc_law.nd (le_make T.i_Prices T.k_Prices (ok_Prices___init__ T) (hy.1.mono (by decide)) hy.2 rfl T.g_Prices (b_Prices___init__ T.j9) (ak (le_dnew) (az)))) <|
    aF (ls_for PassesOwn.never rfl (o7 (bO (ak (aq 6) (ak (bO (ak (le_str [107, 101, 112, 116]) (ak (aq 6) (ak (le_int) (az))))) (ak (bO (ak (le_str [110, 111, 116]) (ak (aq 6) (az)))) (ak (bO (ak (le_str [98, 101, 103, 105, 110, 115]) (ak (aq 6) (az)))) (ak (bO (ak (le_str [97, 108, 111, 110, 101]) (ak (le_str [108, 101, 102, 116]) (ak (aq 6) (az))))) (ak (bO (ak (aq 6) (ak (le_int) (ak (le_int) (az))))) (az))))))))) (cO 7 sc_law.nd)
      (aJ (cH (uf (di (aK (ok__law_alike T) (hy.1.mono (by decide)) hy.2 rfl T.rK T.d7.kp (sH T.d7) (ak (aK (ok_is_saying T) (hy.1.mono (by decide)) hy.2 rfl T.g_is_saying T.kW.kp (b_is_saying T.kW) (ak (aq 7) (az))) (ak (rG) (az))))))
      (aJ (aW (rG)))
      (bF)))) <|
    aJ (aW (rG))
theorem ok_law : FnG P w K mg base 44 T.f_law T.d_law ["_law_script"] (spTop 63) :=
  cG T.F_law sc_law (fun evs h Q ⟨ns, e, _⟩ => by rw [e]; rfl) fun cdv A outer s H hr hG => ⟨_, der_law T ⟨hr, hG⟩, pure_law_k39 T.ad⟩
end
section
variable {w : World} {K : PySem.W.Frag} {h : Heap} {mg : Str → Option Value}
theorem fs_of (X : K.In h) (G : h.Ns mainGlobals mg) (c : He.SaysX fa fn ts [] exB w h K) : ∃ T : Fs PySem.Challenge.rw_saidearly_k39_sayings_told_apart.prog w K mg, T.f_law = He.ga K "law" := by
  have cd := c.t.d
  have more := c.more
  obtain ⟨dd_is_integer, jF⟩ := cd.def_ 0 (d := dD_is_integer) rfl
  obtain ⟨dd_is_between, jA⟩ := cd.def_ 1 (d := dD_is_between) rfl
  obtain ⟨dd_is_letter, qH⟩ := cd.def_ 2 (d := dD_is_letter) rfl
  obtain ⟨dd_is_side, F_is_side⟩ := cd.def_ 3 (d := dD_is_side) rfl
  obtain ⟨dd_is_script, qF⟩ := cd.def_ 4 (d := dD_is_script) rfl
  obtain ⟨dd_are_costs, qJ⟩ := cd.def_ 5 (d := dD_are_costs) rfl
  obtain ⟨dd_is_price_table, jk⟩ := cd.def_ 6 (d := dD_is_price_table) rfl
  obtain ⟨dd_Prices___init__, j9⟩ := cd.def_ 7 (d := tV) rfl
  obtain ⟨dd_is_number, kE⟩ := cd.def_ 8 (d := dD_is_number) rfl
  obtain ⟨dd_has_word, nu⟩ := cd.def_ 9 (d := dD_has_word) rfl
  obtain ⟨dd_is_atom, F_is_atom⟩ := cd.def_ 10 (d := dD_is_atom) rfl
  obtain ⟨dd_is_joined, qK⟩ := cd.def_ 11 (d := dD_is_joined) rfl
  obtain ⟨dd_atoms_of, ni⟩ := cd.def_ 12 (d := dD_atoms_of) rfl
  obtain ⟨dd_is_saying, kW⟩ := cd.def_ 13 (d := dD_is_saying) rfl
  obtain ⟨dd_different, qM⟩ := cd.def_ 14 (d := dD_different) rfl
  obtain ⟨dd_atoms__X, tG⟩ := cd.def_ 15 (d := dD_atoms__X) rfl
  obtain ⟨dd__law_bag, t8⟩ := cd.def_ 16 (d := dD__law_bag) rfl
  obtain ⟨dd__law_take, aG⟩ := cd.def_ 17 (d := dD__law_take) rfl
  obtain ⟨dd__law_one, bD⟩ := cd.def_ 18 (d := dD__law_one) rfl
  obtain ⟨dd__law_mixed, o8⟩ := cd.def_ 19 (d := dD__law_mixed) rfl
  obtain ⟨dd__law_alphabet, jU⟩ := cd.def_ 20 (d := dD__law_alphabet) rfl
  obtain ⟨dd__law_text, lu⟩ := cd.def_ 21 (d := dD__law_text) rfl
  obtain ⟨dd__law_full, lL⟩ := cd.def_ 22 (d := dD__law_full) rfl
  obtain ⟨dd__law_edited, iV⟩ := cd.def_ 23 (d := dD__law_edited) rfl
  obtain ⟨dd__law_texts, nZ⟩ := cd.def_ 24 (d := dD__law_texts) rfl
  obtain ⟨dd__law_steps, oV⟩ := cd.def_ 25 (d := dD__law_steps) rfl
  obtain ⟨dd__law_walk, qG⟩ := cd.def_ 26 (d := dD__law_walk) rfl
  obtain ⟨dd__law_atom, qw⟩ := cd.def_ 27 (d := dD__law_atom) rfl
  obtain ⟨dd__law_has_begins, eG⟩ := cd.def_ 28 (d := tY) rfl
  obtain ⟨dd__law_parts, fV⟩ := cd.def_ 29 (d := dD__law_parts) rfl
  obtain ⟨dd__law_saying, iW⟩ := cd.def_ 30 (d := dD__law_saying) rfl
  obtain ⟨dd__law_alike, d7⟩ := cd.def_ 31 (d := dD__law_alike) rfl
  obtain ⟨dd__law_is_whole, dI⟩ := cd.def_ 32 (d := dD__law_is_whole) rfl
  obtain ⟨dd__law_atoms, jy⟩ := cd.def_ 33 (d := dD__law_atoms) rfl
  obtain ⟨dd__law_odd_values, dZ⟩ := cd.def_ 34 (d := tD) rfl
  obtain ⟨dd__law_bent_saying, dN⟩ := cd.def_ 35 (d := qX) rfl
  obtain ⟨dd__law_counts, dH⟩ := cd.def_ 36 (d := dD__law_counts) rfl
  obtain ⟨dd__law_is_saying, jf⟩ := cd.def_ 37 (d := dD__law_is_saying) rfl
  obtain ⟨dd__law_thing, oW⟩ := cd.def_ 38 (d := dD__law_thing) rfl
  obtain ⟨dd__law_told_atoms, iQ⟩ := cd.def_ 39 (d := tR) rfl
  obtain ⟨dd__law_is_read, lF⟩ := cd.def_ 40 (d := dD__law_is_read) rfl
  obtain ⟨dd_law, F_law⟩ := cd.def_ 41 (d := dD_law) rfl
  have c_ALONE : ∃ t, mg "ALONE" = some (.str (S [97, 108, 111, 110, 101]) t) := by
    have q := He.str_ok X G (cd.fact 61 (f := .str "ALONE" "alone") rfl)
    have e : ("alone" : Str) = S [97, 108, 111, 110, 101] := by decide +kernel
    rw [e] at q
    exact q
  have c_BEGINS : ∃ t, mg "BEGINS" = some (.str (S [98, 101, 103, 105, 110, 115]) t) := by
    have q := He.str_ok X G (cd.fact 62 (f := .str "BEGINS" "begins") rfl)
    have e : ("begins" : Str) = S [98, 101, 103, 105, 110, 115] := by decide +kernel
    rw [e] at q
    exact q
  have c_KEPT : ∃ t, mg "KEPT" = some (.str (S [107, 101, 112, 116]) t) := by
    have q := He.str_ok X G (cd.fact 65 (f := .str "KEPT" "kept") rfl)
    have e : ("kept" : Str) = S [107, 101, 112, 116] := by decide +kernel
    rw [e] at q
    exact q
  have c_NOT : ∃ t, mg "NOT" = some (.str (S [110, 111, 116]) t) := by
    have q := He.str_ok X G (cd.fact 69 (f := .str "NOT" "not") rfl)
    have e : ("not" : Str) = S [110, 111, 116] := by decide +kernel
    rw [e] at q
    exact q
  have c_STEPS : ∃ t, mg "STEPS" = some (.str (S [107, 100, 112]) t) := by
    have q := He.str_ok X G (cd.fact 72 (f := .str "STEPS" "kdp") rfl)
    have e : ("kdp" : Str) = S [107, 100, 112] := by decide +kernel
    rw [e] at q
    exact q
  exact ⟨⟨⟨He.ga K "Book", He.ga K "Comparer", He.ga K "Watch", He.ga K "GainTable", He.ga K "GameTable", He.ga K "Lane", He.ga K "Machine", He.ga K "Nearest", He.ga K "Prices", He.ga K "Rulebook", He.ga K "Sender", He.ga K "Speaker", He.ga K "Standing", He.ga K "Writer", He.ga K "Tails", He.ga K "Teasing", He.ga K "VersusTable", He.ga K "WaitTable", He.ga K "TURNED", He.ga K "WORD_OF", He.ga K "WORDS", He.ga K "STEP_OF", He.ga K "EarlyError", He.ga K "AlreadyEnded", He.ga K "BadArrow", He.ga K "BadLine", He.ga K "BadRule", He.ga K "BeyondEnd", He.ga K "Broken", He.ga K "Contradiction", He.ga K "DoesNotFit", He.ga K "Ended", He.ga K "EndsShort", He.ga K "Finished", He.ga K "KeepNotShown", He.ga K "NeedsNoPromise", He.ga K "NoDeed", He.ga K "NoElder", He.ga K "NoRule", He.ga K "NoSaying", He.ga K "NoStand", He.ga K "NoSuchLetter", He.ga K "NoTick", He.ga K "NoWait", He.ga K "NotARing", He.ga K "NotAScript", He.ga K "NotAWalk", He.ga K "NotClaimed", He.ga K "NotComparable", He.ga K "NotHeights", He.ga K "NotLet", He.ga K "NotOnRim", He.ga K "NotSent", He.ga K "NotWhole", He.ga K "Nothing", He.ga K "Stopped", He.ga K "TooMany", He.ga K "UnderLag", He.ga K "UnderTotal", He.ga K "Unsettled", He.ga K "Wrong"⟩, He.fAd K ("is_integer", none), dd_is_integer, jF, He.glo_ok X G (cd.fact 0 (f := .glo "is_integer") rfl), He.fAd K ("is_between", none), dd_is_between, jA, He.glo_ok X G (cd.fact 1 (f := .glo "is_between") rfl), He.fAd K ("is_letter", none), dd_is_letter, qH, He.glo_ok X G (cd.fact 2 (f := .glo "is_letter") rfl), He.fAd K ("is_side", none), dd_is_side, F_is_side, He.glo_ok X G (cd.fact 3 (f := .glo "is_side") rfl), He.fAd K ("is_script", none), dd_is_script, qF, He.glo_ok X G (cd.fact 4 (f := .glo "is_script") rfl), He.fAd K ("are_costs", none), dd_are_costs, qJ, He.glo_ok X G (cd.fact 5 (f := .glo "are_costs") rfl), He.fAd K ("is_price_table", none), dd_is_price_table, jk, He.glo_ok X G (cd.fact 6 (f := .glo "is_price_table") rfl), He.fAd K ("Prices", some "__init__"), dd_Prices___init__, j9, He.mkr_ok (cd.fact 7 (f := .mkr "Prices") rfl), isiOkB_ok (He.ba (He.ba (He.ba (He.ba (He.ba (He.ba (He.ba (He.ba (He.ba (He.ba (He.ba more).1).1).1).1).1).1).1).1).1).1).2, He.fAd K ("is_number", none), dd_is_number, kE, He.glo_ok X G (cd.fact 8 (f := .glo "is_number") rfl), He.fAd K ("has_word", none), dd_has_word, nu, He.glo_ok X G (cd.fact 9 (f := .glo "has_word") rfl), He.fAd K ("is_atom", none), dd_is_atom, F_is_atom, He.glo_ok X G (cd.fact 10 (f := .glo "is_atom") rfl), He.fAd K ("is_joined", none), dd_is_joined, qK, He.glo_ok X G (cd.fact 11 (f := .glo "is_joined") rfl), He.fAd K ("atoms_of", none), dd_atoms_of, ni, He.glo_ok X G (cd.fact 12 (f := .glo "atoms_of") rfl), He.fAd K ("is_saying", none), dd_is_saying, kW, He.glo_ok X G (cd.fact 13 (f := .glo "is_saying") rfl), He.fAd K ("different", none), dd_different, qM, He.glo_ok X G (cd.fact 14 (f := .glo "different") rfl), He.fAd K ("atoms", none), dd_atoms__X, tG, He.glo_ok X G (cd.fact 15 (f := .glo "atoms") rfl), He.fAd K ("_law_bag", none), dd__law_bag, t8, He.glo_ok X G (cd.fact 16 (f := .glo "_law_bag") rfl), He.fAd K ("_law_take", none), dd__law_take, aG, He.glo_ok X G (cd.fact 17 (f := .glo "_law_take") rfl), He.fAd K ("_law_one", none), dd__law_one, bD, He.glo_ok X G (cd.fact 18 (f := .glo "_law_one") rfl), He.fAd K ("_law_mixed", none), dd__law_mixed, o8, He.glo_ok X G (cd.fact 19 (f := .glo "_law_mixed") rfl), He.fAd K ("_law_alphabet", none), dd__law_alphabet, jU, He.glo_ok X G (cd.fact 20 (f := .glo "_law_alphabet") rfl), He.fAd K ("_law_text", none), dd__law_text, lu, He.glo_ok X G (cd.fact 21 (f := .glo "_law_text") rfl), He.fAd K ("_law_full", none), dd__law_full, lL, He.glo_ok X G (cd.fact 22 (f := .glo "_law_full") rfl), He.fAd K ("_law_edited", none), dd__law_edited, iV, He.glo_ok X G (cd.fact 23 (f := .glo "_law_edited") rfl), He.fAd K ("_law_texts", none), dd__law_texts, nZ, He.glo_ok X G (cd.fact 24 (f := .glo "_law_texts") rfl), He.fAd K ("_law_steps", none), dd__law_steps, oV, He.glo_ok X G (cd.fact 25 (f := .glo "_law_steps") rfl), He.fAd K ("_law_walk", none), dd__law_walk, qG, He.glo_ok X G (cd.fact 26 (f := .glo "_law_walk") rfl), He.fAd K ("_law_atom", none), dd__law_atom, qw, He.glo_ok X G (cd.fact 27 (f := .glo "_law_atom") rfl), He.fAd K ("_law_has_begins", none), dd__law_has_begins, eG, He.glo_ok X G (cd.fact 28 (f := .glo "_law_has_begins") rfl), He.fAd K ("_law_parts", none), dd__law_parts, fV, He.glo_ok X G (cd.fact 29 (f := .glo "_law_parts") rfl), He.fAd K ("_law_saying", none), dd__law_saying, iW, He.glo_ok X G (cd.fact 30 (f := .glo "_law_saying") rfl), He.fAd K ("_law_alike", none), dd__law_alike, d7, He.glo_ok X G (cd.fact 31 (f := .glo "_law_alike") rfl), He.fAd K ("_law_is_whole", none), dd__law_is_whole, dI, He.glo_ok X G (cd.fact 32 (f := .glo "_law_is_whole") rfl), He.fAd K ("_law_atoms", none), dd__law_atoms, jy, He.glo_ok X G (cd.fact 33 (f := .glo "_law_atoms") rfl), He.fAd K ("_law_odd_values", none), dd__law_odd_values, dZ, He.glo_ok X G (cd.fact 34 (f := .glo "_law_odd_values") rfl), He.fAd K ("_law_bent_saying", none), dd__law_bent_saying, dN, He.glo_ok X G (cd.fact 35 (f := .glo "_law_bent_saying") rfl), He.fAd K ("_law_counts", none), dd__law_counts, dH, He.glo_ok X G (cd.fact 36 (f := .glo "_law_counts") rfl), He.fAd K ("_law_is_saying", none), dd__law_is_saying, jf, He.glo_ok X G (cd.fact 37 (f := .glo "_law_is_saying") rfl), He.fAd K ("_law_thing", none), dd__law_thing, oW, He.glo_ok X G (cd.fact 38 (f := .glo "_law_thing") rfl), He.fAd K ("_law_told_atoms", none), dd__law_told_atoms, iQ, He.glo_ok X G (cd.fact 39 (f := .glo "_law_told_atoms") rfl), He.fAd K ("_law_is_read", none), dd__law_is_read, lF, He.glo_ok X G (cd.fact 40 (f := .glo "_law_is_read") rfl), He.fAd K ("law", none), dd_law, F_law, He.glo_ok X G (cd.fact 41 (f := .glo "law") rfl), He.glo_ok X G (cd.fact 42 (f := .glo "Prices") rfl), sclsB_ok (He.ba (He.ba (He.ba (He.ba (He.ba (He.ba (He.ba (He.ba (He.ba (He.ba (He.ba (He.ba more).1).1).1).1).1).1).1).1).1).1).1).1, slotB_ok (He.ba (He.ba (He.ba (He.ba (He.ba (He.ba (He.ba (He.ba (He.ba (He.ba (He.ba (He.ba more).1).1).1).1).1).1).1).1).1).1).1).2, He.glo_ok X G (cd.fact 43 (f := .glo "NoSaying") rfl), excB_ok (He.ba (He.ba (He.ba (He.ba (He.ba (He.ba (He.ba (He.ba (He.ba (He.ba more).1).1).1).1).1).1).1).1).1).2, He.glo_ok X G (cd.fact 44 (f := .glo "EarlyError") rfl), He.glo_ok X G (cd.fact 45 (f := .glo "NoSuchLetter") rfl), isxB_ok (He.ba (He.ba (He.ba (He.ba (He.ba (He.ba (He.ba (He.ba (He.ba more).1).1).1).1).1).1).1).1).2, isxB_ok (He.ba (He.ba (He.ba (He.ba (He.ba (He.ba (He.ba (He.ba more).1).1).1).1).1).1).1).2, isxB_ok (He.ba (He.ba (He.ba (He.ba (He.ba (He.ba (He.ba more).1).1).1).1).1).1).2, xfAtB_ok (He.ba (He.ba (He.ba (He.ba (He.ba (He.ba more).1).1).1).1).1).2, (He.ba (He.ba (He.ba (He.ba (He.ba more).1).1).1).1).2, sysB_ok (He.ba (He.ba (He.ba (He.ba more).1).1).1).2, He.free_ok X G (cd.fact 46 (f := .free "ValueError") rfl), He.free_ok X G (cd.fact 47 (f := .free "abs") rfl), He.free_ok X G (cd.fact 48 (f := .free "all") rfl), He.free_ok X G (cd.fact 49 (f := .free "bool") rfl), He.free_ok X G (cd.fact 50 (f := .free "dict") rfl), He.free_ok X G (cd.fact 51 (f := .free "enumerate") rfl), He.free_ok X G (cd.fact 52 (f := .free "int") rfl), He.free_ok X G (cd.fact 53 (f := .free "isinstance") rfl), He.free_ok X G (cd.fact 54 (f := .free "len") rfl), He.free_ok X G (cd.fact 55 (f := .free "list") rfl), He.free_ok X G (cd.fact 56 (f := .free "range") rfl), He.free_ok X G (cd.fact 57 (f := .free "repr") rfl), He.free_ok X G (cd.fact 58 (f := .free "sorted") rfl), He.free_ok X G (cd.fact 59 (f := .free "str") rfl), He.free_ok X G (cd.fact 60 (f := .free "tuple") rfl), c_ALONE, c_BEGINS, He.int_ok X G (cd.fact 63 (f := .int "GREATEST_LETTER" 1000000000) rfl), He.int_ok X G (cd.fact 64 (f := .int "GREATEST_PRICE" 9) rfl), c_KEPT, He.ga K "LENGTHS", He.glo_ok X G (cd.fact 66 (f := .glo "LENGTHS") rfl), tupNB_ok (He.ba (He.ba (He.ba more).1).1).2, He.int_ok X G (cd.fact 67 (f := .int "MANY_ATOMS" 4) rfl), He.int_ok X G (cd.fact 68 (f := .int "MANY_WORDS" 8) rfl), c_NOT, He.ga K "PLAIN", He.glo_ok X G (cd.fact 70 (f := .glo "PLAIN") rfl), tupB_ok (He.ba (He.ba more).1).2, He.ga K "SIDE_WORDS", He.glo_ok X G (cd.fact 71 (f := .glo "SIDE_WORDS") rfl), tupB_ok (He.ba more).2, c_STEPS⟩, rfl⟩
end
end Y
open PySem PySem.W PySem.Calls PyProof.Rows
theorem PySem.Challenge.cw_saidearly_k39_sayings_told_apart_holds : PySem.Challenge.rw_saidearly_k39_sayings_told_apart.Holds := by
  refine Y.pre_saidearly_k39_sayings_told_apart fun w K mg fa h KX c G hmg => ?_
  obtain ⟨T, eT⟩ := Y.fs_of KX G c
  have e := T.g_law.symm.trans hmg
  have e2 : T.f_law = fa := Value.ref.inj (Option.some.inj e)
  subst e2
  have b := L2.FunD.bindsA (ps := ["_law_script"]) T.F_law fun _ _ _ _ _ _ us hl => match us, hl with | [_], _ => rfl
  exact ⟨T.d_law, fun s u => b s [u] rfl, fun base _ _ => Y.ok_law T⟩
