import PyProof.Rows.All
import Wide.All
import OpenK.AllK
import Wide.FinOn
import HandS.Base
import HandS.Call
import HandS.List
import HandS.Comp
import HandS.Dict
import HandS.Iter
import HandS.Text
import HandS.More
import HandS.Exc
import HandS.Slots
import KE.KIsNot
import KE.KIsAll
import HandS.Wide
import HandS.TupAny
import KE.DataEq
import HandS.TryOnly
import HandS.Words
import HandS.Defaults
import HandS.Ends
import HandS.HeadEnd
import HandS.TupMul
import HandS.WordsDict
import HandS.RaiseMore
import KE.GoesNew
import KE.GoesEnum
import PyProof.ReprLen
import HandS.Star
import HandS.Deep
import HandS.SetFor
import HandS.Zip
import HandS.Style
import KE.KIndexOf
import HandS.IsInst
import HandS.DictComp
import HandS.SlotsOwn
import HandS.Head0
import HandS.Head1
import HandS.Head2
import HandS.HeadHook1
import HandS.HeadHook2
import HandS.HeadHook3
import HandS.HeadHook4
import HandS.Conv
import PyProof.EnumMake
import KE.KDictDisplayH
import KE.KRevSl
import KE.KDictList
import HandS.Flow
import HandS.DictEq
import HandS.ExcInit
import HandS.ExcField
import HandS.ExcOwn
import KE.KExcSuper
import KE.KExcRaise
import HandS.TryMany
import KE.GoesEnumKw
import HandS.SortKw
import HandS.Finally
import KE.KDictKeyed
import KE.KDictPairs
import KE.KDictZip
import PyProof.Rows.ZipGen
import PyProof.ZipIter
import PyProof.Rows.SortShellAny
import HandS.Strs
import KE.KEqNest
import PyProof.NeKinds
import HandS.Codes
import KE.LtData
import KE.DataMinMax
import HandS.SetKeys
import PyProof.DictMoreH
import KE.KDictWalk
import HandS.DictTup
import KE.SortData
import KE.KDictSum
import HandS.ExcValue
import KE.KStateDown
import PySem.Challenge.RW_saidearly_k11_forms_of_any_value
set_option Elab.async false
set_option linter.all false
set_option maxRecDepth 100000
set_option maxHeartbeats 0
namespace Y
open PySem PySem.Spec PyProof.Rows L2
theorem gZ {α : Type _} {a : α} {l : List α} : (a :: l)[0]? = some a := rfl
theorem gS {α : Type _} {a : α} {l : List α} {i : Nat} : (a :: l)[i+1]? = l[i]? := rfl
theorem sZ {α : Type _} {a b : α} {l : List α} : (a :: l).set 0 b = b :: l := rfl
theorem sS {α : Type _} {a b : α} {l : List α} {i : Nat} : (a :: l).set (i+1) b = a :: l.set i b := rfl
inductive EV where
  | non | bl (b : Bool) | int (i : Int) | str (s : List Nat) | tup (xs : List EV) | ktup (xs : List EV) | ref (r : Nat) | adr (a : Addr) | ty (n : String)
inductive EO where
  | lst (xs : List EV) | frz (xs : List EV) | dic (kvs : List (EV × EV)) | dct (kvs : List (EV × EV)) | ins (C : Addr) (fs : List (Str × EV)) | slo (C : Addr) (vs : List (Option EV)) | dlk (o : Obj) (l : List (L2.Key × V)) (kvs : List (EV × EV)) | dlt (o : Obj) (l : List (List L2.Key × V)) (kvs : List (EV × EV)) | xob (fs : List (Str × EV)) | mark (m : Nat → Addr) (n : Nat) (H : Hp) | gone
abbrev En := List (Option EV)
abbrev EH := List EO
abbrev EK := EV → EH → Prop
abbrev LT := En → EH → EK → Prop
abbrev S (l : List Nat) : Str := ⟨l.toArray⟩
def NoTup (u : HO) : Prop := (∀ xs, u ≠ .tup xs) ∧ (∀ q xs, u ≠ .frz q (.tup xs)) ∧ (∀ q xs, u ≠ .frz q (.lst xs)) ∧ (∀ l, u ≠ .xd l) ∧ ∀ y, u ≠ .own y
def FrzL (K : PySem.W.Frag) (H : Hp) (a : Addr) (xs : List V) : Prop := (∃ o, H a = some (.frz o (.lst xs))) ∨
  ∃ (o : Obj) (its : Array Value) (n : Nat), K.lookup a = some o ∧ o.cls = .type "list" ∧ o.dict = none ∧ o.data = .seq its n ∧ its.size ≤ sizeLine ∧ Vals xs its.toList
theorem FrzL.sql {K : PySem.W.Frag} {H : Hp} {a : Addr} {xs : List V} (h : FrzL K H a xs) : SqL K H a xs := by
  rcases h with ⟨o, h⟩ | h
  · exact .inl (.inr ⟨o, h⟩)
  · exact .inr h
def isF : EO → Bool
  | .frz _ => true
  | .xob _ => true
  | .mark .. => true
  | _ => false
def keysL : List EV → Option (List L2.Key)
  | [] => some []
  | .int i :: r => (keysL r).map (Sum.inl i :: ·)
  | .str s :: r => (keysL r).map (Sum.inr (S s) :: ·)
  | _ => none
def keyL : EV → Option (List L2.Key)
  | .tup ks => keysL ks
  | _ => none
structure Ex (K : PySem.W.Frag) (m : Nat → Addr) (n : Nat) (H : Hp) (m' : Nat → Addr) (n' : Nat) (H' : Hp) : Prop where
  le : n ≤ n'
  eq : ∀ r, r < n → m' r = m r
  tup : ∀ a xs, SqT K H a xs → SqT K H' a xs
  tk : ∀ a xs, H a = some (.tup xs) → H' a = some (.tup xs)
structure IsiOk (K : PySem.W.Frag) (C : Addr) : Prop where
  pg : PySem.W.plainGet K C "__class__" = true
  ic : PySem.W.isClsIn K C = true
  cl : PySem.W.findIn K (.ref C) "__class__" = some (some (.builtin "object.__class__"))
  gt : PySem.W.specialIn K (.builtin "object.__class__") "__get__" = some (some (.builtin "getset_descriptor.__get__"))
  tk : PySem.W.takesIn K (.builtin "object.__class__") = some true
  mo : PySem.W.mroIn K C (.type "object") = some true
  ty : ∀ T ∈ ["int", "bool", "str", "tuple", "dict", "list"], PySem.W.kitOne K (.ref C) (.type T) = some false
section rel
variable (K : PySem.W.Frag) (m : Nat → Addr) (n : Nat) (H : Hp)
mutual
def az : EV → V → Prop
  | .non, v => v = .non
  | .bl b, v => v = .bl b
  | .int i, v => v = .int i
  | .str s, v => v = .str (S s)
  | .tup xs, v => ∃ a vs, v = .ref a ∧ H a = some (.tup vs) ∧ aC xs vs
  | .ktup xs, v => ∃ a vs, v = .ref a ∧ SqT K H a vs ∧ aC xs vs
  | .ref r, v => r < n ∧ v = .ref (m r)
  | .adr a, v => v = .ref a
  | .ty t, v => v = .ty t
def aC : List EV → List V → Prop
  | [], vs => vs = []
  | x :: xs, vs => ∃ v r, vs = v :: r ∧ az x v ∧ aC xs r
end
def bj : List (EV × EV) → List (L2.Key × V) → Prop
  | [], l => l = []
  | (k, x) :: r, l => ∃ k' v l', l = (k', v) :: l' ∧ az K m n H k (kV k') ∧ az K m n H x v ∧ bj r l'
def bY : List (EV × EV) → List (List L2.Key × V) → Prop
  | [], l => l = []
  | (k, x) :: r, l => ∃ k' v l', l = (k', v) :: l' ∧ keyL k = some k' ∧ az K m n H x v ∧ bY r l'
def RelFs : List (Str × EV) → List (Str × V) → Prop
  | [], l => l = []
  | (f, x) :: r, l => ∃ v l', l = (f, v) :: l' ∧ az K m n H x v ∧ RelFs r l'
def RelO : EO → Addr → Prop
  | .lst xs, a => ∃ vs, H a = some (.lst vs) ∧ aC K m n H xs vs
  | .frz xs, a => ∃ vs, FrzL K H a vs ∧ aC K m n H xs vs
  | .dic kvs, a => ∃ l, H a = some (.dK l) ∧ bj K m n H kvs l
  | .dct kvs, a => ∃ l, H a = some (.dT l) ∧ bY K m n H kvs l
  | .ins C fs, a => ∃ dx l, H a = some (.ins C dx l) ∧ RelFs K m n H fs l
  | .slo C vs, a => IsiOk K C ∧ ∃ dx ws, SlX.Slt H a C dx ws ∧ dx ≠ a ∧ (H dx = some (.own a) ∨ H dx = some (.xd [])) ∧ ∀ (i : Nat) (v : EV), vs[i]? = some (some v) → ∃ w, ws[i]? = some (some w) ∧ az K m n H v w
  | .dlk o l kvs, a => H a = some (.frz o (.dK l)) ∧ bj K m n H kvs l
  | .dlt o l kvs, a => H a = some (.frz o (.dT l)) ∧ bY K m n H kvs l
  | .xob fs, a => ∃ l, H a = some (.xd l) ∧ RelFs K m n H fs l
  | .mark m0 n0 H0, _ => Ex K m0 n0 H0 m n H
  | .gone, a => ∃ o, H a = some o ∧ NoTup o
end rel
structure cJ (K : PySem.W.Frag) (m : Nat → Addr) (h : EH) (H : Hp) : Prop where
  obj : ∀ r o, h[r]? = some o → RelO K m h.length H o (m r)
  inj : ∀ r q o u, h[r]? = some o → h[q]? = some u → isF o = false → isF u = false → m r = m q → r = q
def RelN (K : PySem.W.Frag) (m : Nat → Addr) (n : Nat) (H : Hp) (env : En) (σ : L2.St) : Prop :=
  env.length = σ.length ∧ ∀ (i : Nat) (v : EV), env[i]? = some (some v) → ∃ x, σ[i]? = some (some x) ∧ az K m n H v x
section
variable {K : PySem.W.Frag} {m m' m2 : Nat → Addr} {n n' n2 : Nat} {H H' H2 : Hp}
theorem Ex.refl : Ex K m n H m n H := ⟨Nat.le_refl _, fun _ _ => rfl, fun _ _ h => h, fun _ _ h => h⟩
theorem Ex.trans (a : Ex K m n H m' n' H') (b : Ex K m' n' H' m2 n2 H2) : Ex K m n H m2 n2 H2 :=
  ⟨Nat.le_trans a.le b.le, fun r h => (b.eq r (Nat.lt_of_lt_of_le h a.le)).trans (a.eq r h), fun x xs h => b.tup x xs (a.tup x xs h), fun x xs h => b.tk x xs (a.tk x xs h)⟩
mutual
theorem az.ex (E : Ex K m n H m' n' H') : ∀ (e : EV) (v : V), az K m n H e v → az K m' n' H' e v
  | .non, v, h => by rw [az] at h ⊢; exact h
  | .bl _, v, h => by rw [az] at h ⊢; exact h
  | .int _, v, h => by rw [az] at h ⊢; exact h
  | .str _, v, h => by rw [az] at h ⊢; exact h
  | .adr _, v, h => by rw [az] at h ⊢; exact h
  | .ty _, v, h => by rw [az] at h ⊢; exact h
  | .ref r, v, h => by
    rw [az] at h ⊢
    exact ⟨Nat.lt_of_lt_of_le h.1 E.le, by rw [E.eq r h.1]; exact h.2⟩
  | .tup xs, v, h => by
    rw [az] at h ⊢
    obtain ⟨a, vs, e, q, r⟩ := h
    exact ⟨a, vs, e, E.tk a vs q, aC.ex E xs vs r⟩
  | .ktup xs, v, h => by
    rw [az] at h ⊢
    obtain ⟨a, vs, e, q, r⟩ := h
    exact ⟨a, vs, e, E.tup a vs q, aC.ex E xs vs r⟩
theorem aC.ex (E : Ex K m n H m' n' H') : ∀ (es : List EV) (vs : List V), aC K m n H es vs → aC K m' n' H' es vs
  | [], vs, h => by rw [aC] at h ⊢; exact h
  | x :: xs, vs, h => by
    rw [aC] at h ⊢
    obtain ⟨v, r, e, q, t⟩ := h
    exact ⟨v, r, e, az.ex E x v q, aC.ex E xs r t⟩
end
theorem bj.ex (E : Ex K m n H m' n' H') : ∀ (l : List (EV × EV)) (l' : List (L2.Key × V)), bj K m n H l l' → bj K m' n' H' l l'
  | [], l', h => h
  | (k, x) :: r, l', h => by
    obtain ⟨k', v, l2, e, a, b, c⟩ := h
    exact ⟨k', v, l2, e, az.ex E _ _ a, az.ex E _ _ b, bj.ex E r l2 c⟩
theorem bY.ex (E : Ex K m n H m' n' H') : ∀ (l : List (EV × EV)) (l' : List (List L2.Key × V)), bY K m n H l l' → bY K m' n' H' l l'
  | [], l', h => h
  | (k, x) :: r, l', h => by
    obtain ⟨k', v, l2, e, a, b, c⟩ := h
    exact ⟨k', v, l2, e, a, az.ex E _ _ b, bY.ex E r l2 c⟩
theorem RelFs.ex (E : Ex K m n H m' n' H') : ∀ (l : List (Str × EV)) (l' : List (Str × V)), RelFs K m n H l l' → RelFs K m' n' H' l l'
  | [], l', h => h
  | (k, x) :: r, l', h => by
    obtain ⟨v, l2, e, b, c⟩ := h
    exact ⟨v, l2, e, az.ex E _ _ b, RelFs.ex E r l2 c⟩
theorem RelN.ex (E : Ex K m n H m' n' H') {env : En} {σ : L2.St} (R : RelN K m n H env σ) : RelN K m' n' H' env σ :=
  ⟨R.1, fun i v h => let ⟨x, a, b⟩ := R.2 i v h; ⟨x, a, az.ex E _ _ b⟩⟩
theorem RelO.ex (E : Ex K m n H m' n' H') {o : EO} {a : Addr} (he : H' a = H a) (hx : ∀ b, (H b = some (.xd []) → H' b = some (.xd [])) ∧ (H b = some (.own a) → H' b = some (.own a))) (R : RelO K m n H o a) : RelO K m' n' H' o a := by
  cases o with
  | lst xs => obtain ⟨vs, e, r⟩ := R; exact ⟨vs, he.trans e, aC.ex E _ _ r⟩
  | frz xs =>
    obtain ⟨vs, e, r⟩ := R
    refine ⟨vs, ?_, aC.ex E _ _ r⟩
    rcases e with ⟨o, e⟩ | e
    · exact .inl ⟨o, he.trans e⟩
    · exact .inr e
  | dic xs => obtain ⟨vs, e, r⟩ := R; exact ⟨vs, he.trans e, bj.ex E _ _ r⟩
  | dct xs => obtain ⟨vs, e, r⟩ := R; exact ⟨vs, he.trans e, bY.ex E _ _ r⟩
  | ins C fs => obtain ⟨dx, vs, e, r⟩ := R; exact ⟨dx, vs, he.trans e, RelFs.ex E _ _ r⟩
  | xob fs => obtain ⟨l, e, r⟩ := R; exact ⟨l, he.trans e, RelFs.ex E _ _ r⟩
  | mark m0 n0 H0 => exact Ex.trans R E
  | slo C fs =>
    obtain ⟨io, dx, ws, e, ne, hd, r⟩ := R
    refine ⟨io, dx, ws, ?_, ne, hd.imp (hx _).2 (hx _).1, fun i v q => let ⟨w, a, b⟩ := r i v q; ⟨w, a, az.ex E _ _ b⟩⟩
    rcases e with ⟨e, z⟩ | ⟨e, z⟩
    · exact .inl ⟨he.trans e, z⟩
    · exact .inr ⟨he.trans e, (hx _).1 z⟩
  | dlk o l xs => obtain ⟨e, r⟩ := R; exact ⟨he.trans e, bj.ex E _ _ r⟩
  | dlt o l xs => obtain ⟨e, r⟩ := R; exact ⟨he.trans e, bY.ex E _ _ r⟩
  | gone => obtain ⟨o, e, r⟩ := R; exact ⟨o, he.trans e, r⟩
theorem RelO.there {o : EO} {a : Addr} (R : RelO K m n H o a) (hf : isF o = false) : ∃ u, H a = some u ∧ NoTup u := by
  cases o with
  | lst xs => obtain ⟨vs, e, r⟩ := R; exact ⟨_, e, fun _ z => (nomatch z), fun _ _ z => (nomatch z), fun _ _ z => (nomatch z), fun _ z => (nomatch z), fun _ z => nomatch z⟩
  | frz xs => cases hf
  | dic xs => obtain ⟨vs, e, r⟩ := R; exact ⟨_, e, fun _ z => (nomatch z), fun _ _ z => (nomatch z), fun _ _ z => (nomatch z), fun _ z => (nomatch z), fun _ z => nomatch z⟩
  | dct xs => obtain ⟨vs, e, r⟩ := R; exact ⟨_, e, fun _ z => (nomatch z), fun _ _ z => (nomatch z), fun _ _ z => (nomatch z), fun _ z => (nomatch z), fun _ z => nomatch z⟩
  | ins C fs => obtain ⟨dx, vs, e, r⟩ := R; exact ⟨_, e, fun _ z => (nomatch z), fun _ _ z => (nomatch z), fun _ _ z => (nomatch z), fun _ z => (nomatch z), fun _ z => nomatch z⟩
  | xob fs => cases hf
  | mark m0 n0 H0 => cases hf
  | slo C fs =>
    obtain ⟨_, dx, ws, e, _, _, r⟩ := R
    rcases e with ⟨e, z⟩ | ⟨e, z⟩
    · exact ⟨_, e, fun _ z => (nomatch z), fun _ _ z => (nomatch z), fun _ _ z => (nomatch z), fun _ z => (nomatch z), fun _ z => nomatch z⟩
    · refine ⟨_, e, ?_⟩
      unfold SlX.SlO
      exact ⟨fun _ z => (nomatch z), fun _ _ z => (nomatch z), fun _ _ z => (nomatch z), fun _ z => (nomatch z), fun _ z => nomatch z⟩
  | dlk o l xs => obtain ⟨e, r⟩ := R; exact ⟨_, e, fun _ z => (nomatch z), fun _ _ z => (by cases z), fun _ _ z => (by cases z), fun _ z => (nomatch z), fun _ z => nomatch z⟩
  | dlt o l xs => obtain ⟨e, r⟩ := R; exact ⟨_, e, fun _ z => (nomatch z), fun _ _ z => (by cases z), fun _ _ z => (by cases z), fun _ z => (nomatch z), fun _ z => nomatch z⟩
  | gone => obtain ⟨o, e, r⟩ := R; exact ⟨o, e, r⟩
theorem RelO.off (E : Ex K m n H m' n' H') {o : EO} {a p : Addr} (R : RelO K m n H o a) (hp : ∀ u, H p = some u → NoTup u) (h : isF o = false → a ≠ p) (he : a ≠ p → H' a = H a) (hx : ∀ b, (H b = some (.xd []) → H' b = some (.xd [])) ∧ (H b = some (.own a) → H' b = some (.own a))) : RelO K m' n' H' o a := by
  by_cases z : a = p
  · subst z
    cases o with
    | frz xs =>
      obtain ⟨vs, e, r⟩ := R
      refine ⟨vs, ?_, aC.ex E _ _ r⟩
      rcases e with ⟨o, e⟩ | e
      · exact absurd rfl ((hp _ e).2.2.1 o vs)
      · exact .inr e
    | xob fs =>
      obtain ⟨l, e, r⟩ := R
      exact absurd rfl ((hp _ e).2.2.2.1 l)
    | mark m0 n0 H0 => exact Ex.trans R E
    | _ => exact absurd rfl (h rfl)
  · exact R.ex E (he z) hx
theorem aC.length : ∀ {es : List EV} {vs : List V}, aC K m n H es vs → es.length = vs.length
  | [], vs, h => by rw [aC] at h; subst h; rfl
  | x :: xs, vs, h => by
    rw [aC] at h
    obtain ⟨v, r, e, _, t⟩ := h
    subst e
    simp [aC.length t]
theorem aC.at : ∀ {es : List EV} {vs : List V} {i : Nat} {x : EV}, aC K m n H es vs → es[i]? = some x → ∃ v, vs[i]? = some v ∧ az K m n H x v
  | [], vs, i, x, h, e => by simp at e
  | y :: ys, vs, 0, x, h, e => by
    rw [aC] at h
    obtain ⟨v, r, rfl, q, t⟩ := h
    simp at e; subst e
    exact ⟨v, rfl, q⟩
  | y :: ys, vs, i + 1, x, h, e => by
    rw [aC] at h
    obtain ⟨v, r, rfl, q, t⟩ := h
    obtain ⟨u, a, b⟩ := aC.at (i := i) (x := x) t (by simpa using e)
    exact ⟨u, by simpa using a, b⟩
theorem aC.app : ∀ {es fs : List EV} {vs us : List V}, aC K m n H es vs → aC K m n H fs us → aC K m n H (es ++ fs) (vs ++ us)
  | [], fs, vs, us, h, g => by rw [aC] at h; subst h; exact g
  | y :: ys, fs, vs, us, h, g => by
    rw [aC] at h
    obtain ⟨v, r, rfl, q, t⟩ := h
    rw [List.cons_append, List.cons_append, aC]
    exact ⟨v, r ++ us, rfl, q, aC.app t g⟩
theorem aC.nil : aC K m n H [] [] := by rw [aC]
theorem aC.cons {x : EV} {v : V} {xs : List EV} {vs : List V} (a : az K m n H x v) (b : aC K m n H xs vs) : aC K m n H (x :: xs) (v :: vs) := by
  rw [aC]; exact ⟨v, vs, rfl, a, b⟩
theorem aC.one {x : EV} {v : V} (a : az K m n H x v) : aC K m n H [x] [v] := .cons a .nil
theorem aC.take : ∀ {es : List EV} {vs : List V} (k : Nat), aC K m n H es vs → aC K m n H (es.take k) (vs.take k)
  | _, _, 0, _ => by simpa using aC.nil
  | [], vs, k + 1, h => by rw [aC] at h; subst h; simpa using aC.nil
  | y :: ys, vs, k + 1, h => by
    rw [aC] at h
    obtain ⟨v, r, rfl, q, t⟩ := h
    rw [List.take_succ_cons, List.take_succ_cons]
    exact .cons q (aC.take k t)
theorem aC.drop : ∀ {es : List EV} {vs : List V} (k : Nat), aC K m n H es vs → aC K m n H (es.drop k) (vs.drop k)
  | _, _, 0, h => by simpa using h
  | [], vs, k + 1, h => by rw [aC] at h; subst h; simpa using aC.nil
  | y :: ys, vs, k + 1, h => by
    rw [aC] at h
    obtain ⟨v, r, rfl, q, t⟩ := h
    rw [List.drop_succ_cons, List.drop_succ_cons]
    exact aC.drop k t
theorem aC.set {x : EV} {v : V} (a : az K m n H x v) : ∀ {es : List EV} {vs : List V} (k : Nat), aC K m n H es vs → aC K m n H (es.set k x) (vs.set k v)
  | [], vs, k, h => by rw [aC] at h; subst h; simpa using aC.nil
  | y :: ys, vs, 0, h => by
    rw [aC] at h
    obtain ⟨w, r, rfl, q, t⟩ := h
    exact .cons a t
  | y :: ys, vs, k + 1, h => by
    rw [aC] at h
    obtain ⟨w, r, rfl, q, t⟩ := h
    exact .cons q (aC.set a k t)
theorem sqT_upd {a p : Addr} {xs : List V} {o : HO} (h : SqT K H a xs) (hp : ∀ u, H p = some u → NoTup u) : SqT K (upd H p o) a xs := by
  rcases h with h | h
  · refine .inl ?_
    have ne : a ≠ p := by
      rintro rfl
      rcases h with h | ⟨q, h⟩
      · exact (hp _ h).1 _ rfl
      · exact (hp _ h).2.1 _ _ rfl
    rcases h with h | ⟨q, h⟩
    · exact .inl (by rw [upd_ne ne]; exact h)
    · exact .inr ⟨q, by rw [upd_ne ne]; exact h⟩
  · exact .inr h
theorem upd_xd {p a : Addr} {o : HO} (hp : ∀ u, H p = some u → NoTup u) : ∀ b, (H b = some (.xd []) → upd H p o b = some (.xd [])) ∧ (H b = some (.own a) → upd H p o b = some (.own a)) := fun b => by
  refine ⟨fun e => ?_, fun e => ?_⟩
  · have ne : b ≠ p := by
      rintro rfl
      exact (hp _ e).2.2.2.1 _ rfl
    rw [upd_ne ne]; exact e
  · have ne : b ≠ p := by
      rintro rfl
      exact (hp _ e).2.2.2.2 _ rfl
    rw [upd_ne ne]; exact e
theorem o8 {p : Addr} (hp : H p = none) : ∀ u, H p = some u → NoTup u := fun u e => by rw [hp] at e; cases e
theorem tk_upd {a p : Addr} {xs : List V} {o : HO} (h : H a = some (.tup xs)) (hp : ∀ u, H p = some u → NoTup u) : upd H p o a = some (.tup xs) := by
  have ne : a ≠ p := by
    rintro rfl
    exact (hp _ h).1 _ rfl
  rw [upd_ne ne]; exact h
theorem Ex.tup1 {p : Addr} {o : HO} (hp : H p = none) : Ex K m n H m n (upd H p o) :=
  ⟨Nat.le_refl _, fun _ _ => rfl, fun a xs h => sqT_upd h (o8 hp), fun a xs h => tk_upd h (o8 hp)⟩
theorem cJ.tup {h : EH} {p : Addr} {o : HO} (R : cJ K m h H) (hp : H p = none) : cJ K m h (upd H p o) := by
  refine ⟨fun r e hr => ?_, R.inj⟩
  have q := R.obj r e hr
  refine q.off (Ex.tup1 hp) (o8 hp) (fun hf => ?_) (fun z => upd_ne z) (upd_xd (o8 hp))
  obtain ⟨u, hu, _⟩ := q.there hf
  exact ne_of_none hu hp
def mput (m : Nat → Addr) (n : Nat) (p : Addr) : Nat → Addr := fun r => if r = n then p else m r
theorem mput_lt {p : Addr} {r : Nat} (h : r < n) : mput m n p r = m r := if_neg (Nat.ne_of_lt h)
theorem kZ {p : Addr} : mput m n p n = p := if_pos rfl
theorem Ex.new {h : EH} {p : Addr} {o : HO} {e : EO} (hp : H p = none) : Ex K m h.length H (mput m h.length p) (h ++ [e]).length (upd H p o) :=
  ⟨by simp, fun r hr => mput_lt hr, fun a xs q => sqT_upd q (o8 hp), fun a xs q => tk_upd q (o8 hp)⟩
theorem app_cases {h : EH} {e u : EO} {r : Nat} (hr : (h ++ [e])[r]? = some u) : (r < h.length ∧ h[r]? = some u) ∨ (r = h.length ∧ u = e) := by
  by_cases q : r < h.length
  · rw [List.getElem?_append_left q] at hr
    exact .inl ⟨q, hr⟩
  · rw [List.getElem?_append_right (by omega)] at hr
    have : r - h.length = 0 := by
      have := (List.getElem?_eq_some_iff.mp hr).1
      simp at this; omega
    rw [this] at hr
    simp at hr
    exact .inr ⟨by omega, hr.symm⟩
theorem cJ.new {h : EH} {p : Addr} {o : HO} {e : EO} (R : cJ K m h H) (hp : H p = none)
    (new : RelO K (mput m h.length p) (h ++ [e]).length (upd H p o) e p) : cJ K (mput m h.length p) (h ++ [e]) (upd H p o) := by
  have there : ∀ r u, h[r]? = some u → isF u = false → m r ≠ p := fun r u hr hf => by
    obtain ⟨w, hw, _⟩ := (R.obj r u hr).there hf
    exact ne_of_none hw hp
  refine ⟨fun r u hr => ?_, fun r q u v hr hq fu fv z => ?_⟩
  · rcases app_cases hr with ⟨q, hr⟩ | ⟨rfl, rfl⟩
    · rw [mput_lt q]
      exact (R.obj r u hr).off (Ex.new hp) (o8 hp) (there r u hr) (fun z => upd_ne z) (upd_xd (o8 hp))
    · rw [kZ]; exact new
  · rcases app_cases hr with ⟨a, hr'⟩ | ⟨a, a'⟩ <;> rcases app_cases hq with ⟨b, hq'⟩ | ⟨b, b'⟩
    · rw [mput_lt a, mput_lt b] at z; exact R.inj r q u v hr' hq' fu fv z
    · rw [b, mput_lt a, kZ] at z; exact absurd z (there r u hr' fu)
    · rw [a, mput_lt b, kZ] at z; exact absurd z.symm (there q v hq' fv)
    · rw [a, b]
theorem cJ.tops {h : EH} {r : Nat} {e : EO} (R : cJ K m h H) (hr : h[r]? = some e) (hf : isF e = false := by rfl) : ∀ u, H (m r) = some u → NoTup u := fun u z => by
  obtain ⟨w, hw, nt⟩ := (R.obj r e hr).there hf
  rw [hw] at z; cases z; exact nt
theorem Ex.write {h : EH} {r : Nat} {o : HO} {e e' : EO} (R : cJ K m h H) (hr : h[r]? = some e) (hf : isF e = false := by rfl) : Ex K m h.length H m (h.set r e').length (upd H (m r) o) :=
  ⟨by simp, fun _ _ => rfl, fun a xs q => sqT_upd q (R.tops hr hf), fun a xs q => tk_upd q (R.tops hr hf)⟩
theorem cJ.write {h : EH} {r : Nat} {o : HO} {e e' : EO} (R : cJ K m h H) (hr : h[r]? = some e)
    (new : RelO K m (h.set r e').length (upd H (m r) o) e' (m r)) (hf : isF e = false := by rfl) : cJ K m (h.set r e') (upd H (m r) o) := by
  have hlt := (List.getElem?_eq_some_iff.mp hr).1
  have set_cases : ∀ {q : Nat} {u : EO}, (h.set r e')[q]? = some u → (q = r ∧ u = e') ∨ (q ≠ r ∧ h[q]? = some u) := fun {q u} hq => by
    by_cases z : r = q
    · subst z
      rw [List.getElem?_set_self hlt] at hq
      cases hq
      exact .inl ⟨rfl, rfl⟩
    · rw [List.getElem?_set_ne z] at hq
      exact .inr ⟨fun y => z y.symm, hq⟩
  refine ⟨fun q u hq => ?_, fun q p u v hq hp fu fv z => ?_⟩
  · rcases set_cases hq with ⟨rfl, rfl⟩ | ⟨z, hq⟩
    · exact new
    · exact (R.obj q u hq).off (Ex.write R hr hf) (R.tops hr hf) (fun fu y => z (R.inj q r u e hq hr fu hf y)) (fun y => upd_ne y) (upd_xd (R.tops hr hf))
  · rcases set_cases hq with ⟨a, a'⟩ | ⟨a, hq'⟩ <;> rcases set_cases hp with ⟨b, b'⟩ | ⟨b, hp'⟩
    · rw [a, b]
    · rw [a] at z; exact absurd (R.inj p r v e hp' hr fv hf z.symm) b
    · rw [b] at z; exact absurd (R.inj q r u e hq' hr fu hf z) a
    · exact R.inj q p u v hq' hp' fu fv z
def Kon (K : PySem.W.Frag) (m : Nat → Addr) (n : Nat) (H : Hp) (P : EK) (Q : VK) : Prop :=
  ∀ v h', P v h' → ∀ (m' : Nat → Addr) (H' : Hp) (x : V), Ex K m n H m' h'.length H' → cJ K m' h' H' → az K m' h'.length H' v x → Q x H'
theorem Kon.ex {P : EK} {Q : VK} (E : Ex K m n H m' n' H') (k : Kon K m n H P Q) : Kon K m' n' H' P Q := fun v h' p m2 H2 x E2 R r => k v h' p m2 H2 x (E.trans E2) R r
structure At (K : PySem.W.Frag) (env : En) (h : EH) (m : Nat → Addr) (σ : L2.St) (H : Hp) : Prop where
  hp : cJ K m h H
  nm : RelN K m h.length H env σ
theorem At.ex {env : En} {h h' : EH} {σ : L2.St} (a : At K env h m σ H) (E : Ex K m h.length H m' h'.length H') (R : cJ K m' h' H') : At K env h' m' σ H' := ⟨R, a.nm.ex E⟩
def up (K : PySem.W.Frag) (t : LT) : TE := fun σ H Q => ∃ m env h P, At K env h m σ H ∧ t env h P ∧ Kon K m h.length H P Q
structure LE (X : Cx) (e : Expr) (t : LT) : Prop where
  pe : PE X e (up X.K t)
abbrev LTt := En → EH → (Bool → EH → Prop) → Prop
def upT (K : PySem.W.Frag) (t : LTt) : TT := fun σ H Q => ∃ m env h P, At K env h m σ H ∧ t env h P ∧
  ∀ b h', P b h' → ∀ (m' : Nat → Addr) (H' : Hp), Ex K m h.length H m' h'.length H' → cJ K m' h' H' → Q b H'
structure LTe (X : Cx) (e : Expr) (t : LTt) : Prop where
  pt : PT X e (upT X.K t)
structure LWe (X : Cx) (e : Expr) (t : LTt) : Prop where
  pw : PW X e (upT X.K t)
abbrev LA := En → EH → (List EV → EH → Prop) → Prop
def KonA (K : PySem.W.Frag) (m : Nat → Addr) (n : Nat) (H : Hp) (P : List EV → EH → Prop) (Q : List V → Hp → Prop) : Prop :=
  ∀ vs h', P vs h' → ∀ (m' : Nat → Addr) (H' : Hp) (xs : List V), Ex K m n H m' h'.length H' → cJ K m' h' H' → aC K m' h'.length H' vs xs → Q xs H'
def upA (K : PySem.W.Frag) (t : LA) : TA := fun σ H Q => ∃ m env h P, At K env h m σ H ∧ t env h P ∧ KonA K m h.length H P Q
structure LAs (X : Cx) (es : List Expr) (t : LA) : Prop where
  pa : PA X es (upA X.K t)
structure LEnds where
  nx : En → EH → Prop
  rt : EK
  bk : En → EH → Prop := fun _ _ => False
  ct : En → EH → Prop := fun _ _ => False
abbrev LS := LEnds → En → EH → Prop
def KonS (K : PySem.W.Frag) (m : Nat → Addr) (n : Nat) (H : Hp) (P : En → EH → Prop) (Q : L2.St → Hp → Prop) : Prop :=
  ∀ env' h', P env' h' → ∀ (m' : Nat → Addr) (H' : Hp) (σ' : L2.St), Ex K m n H m' h'.length H' → At K env' h' m' σ' H' → Q σ' H'
theorem KonS.ex {P : En → EH → Prop} {Q : L2.St → Hp → Prop} (E : Ex K m n H m' n' H') (k : KonS K m n H P Q) : KonS K m' n' H' P Q := fun v h' p m2 H2 x E2 R => k v h' p m2 H2 x (E.trans E2) R
structure KonE (K : PySem.W.Frag) (m : Nat → Addr) (n : Nat) (H : Hp) (P : LEnds) (Q : Ends) : Prop where
  nx : KonS K m n H P.nx Q.nx
  rt : Kon K m n H P.rt Q.rt
  bk : KonS K m n H P.bk Q.bk
  ct : KonS K m n H P.ct Q.ct
theorem KonE.ex {P : LEnds} {Q : Ends} (E : Ex K m n H m' n' H') (k : KonE K m n H P Q) : KonE K m' n' H' P Q := ⟨k.nx.ex E, k.rt.ex E, k.bk.ex E, k.ct.ex E⟩
def upS (K : PySem.W.Frag) (t : LS) : TS := fun D σ H => ∃ m env h P, At K env h m σ H ∧ t P env h ∧ KonE K m h.length H P D
structure LSt (X : Cx) (st : Stmt) (t : LS) : Prop where
  ps : PS X st (upS X.K t)
structure LSs (X : Cx) (st : List Stmt) (t : LS) : Prop where
  pss : PSs X st (upS X.K t)
theorem PE.imp {X : Cx} {e : Expr} {t t' : TE} (h : PE X e t) (i : ∀ σ H Q, t' σ H Q → t σ H Q) : PE X e t' := ⟨fun pins s σ H Q I q => h.run pins s σ H Q I (i σ H Q q)⟩
theorem PT.imp {X : Cx} {e : Expr} {t t' : TT} (h : PT X e t) (i : ∀ σ H Q, t' σ H Q → t σ H Q) : PT X e t' := ⟨fun pins s σ H Q I q => h.run pins s σ H Q I (i σ H Q q)⟩
theorem PW.imp {X : Cx} {e : Expr} {t t' : TT} (h : PW X e t) (i : ∀ σ H Q, t' σ H Q → t σ H Q) : PW X e t' := ⟨fun wh pins s σ H Q I q => h.run wh pins s σ H Q I (i σ H Q q)⟩
theorem PA.imp {X : Cx} {e : List Expr} {t t' : TA} (h : PA X e t) (i : ∀ σ H Q, t' σ H Q → t σ H Q) : PA X e t' := ⟨fun p pins s σ H Q I q => h.run p pins s σ H Q I (i σ H Q q)⟩
theorem PS.imp {X : Cx} {e : Stmt} {t t' : TS} (h : PS X e t) (i : ∀ D σ H, t' D σ H → t D σ H) : PS X e t' := ⟨fun pins s σ H D I q => h.run pins s σ H D I (i D σ H q)⟩
theorem PSs.imp {X : Cx} {e : List Stmt} {t t' : TS} (h : PSs X e t) (i : ∀ D σ H, t' D σ H → t D σ H) : PSs X e t' := ⟨fun pins s σ H D I q => h.run pins s σ H D I (i D σ H q)⟩
theorem PI.imp {X : Cx} {tg e : Expr} {t t' : TI} (h : PI X tg e t) (i : ∀ σ H Q, t' σ H Q → t σ H Q) : PI X tg e t' := ⟨fun pins s σ H Q I q => h.run pins s σ H Q I (i σ H Q q)⟩
def ao (i : Nat) : LT := fun env h P => match env[i]? with
  | some (some v) => P v h
  | _ => False
def lC (v : EV) : LT := fun _ h P => P v h
section
variable {X : Cx}
theorem au (i : Nat) {x : Str} {pos : Pos} (hN : X.N[i]? = some x := by rfl) (hv : Vis X.env.scope x := by first | exact Or.inl rfl | exact Or.inr (Or.inl rfl) | exact Or.inr (Or.inr rfl))
    (hd : (x == ("__debug__" : Str)) = false := by decide) (hcd : (x == ("__classdict__" : Str)) = false := by decide) : LE X (.Name x pos) (ao i) :=
  ⟨PE.imp (pe_var hN hv hd hcd) fun σ H Q ⟨m, env, h, P, a, t, k⟩ => by
    unfold ao at t
    split at t
    · rename_i v e
      obtain ⟨x, ex, rx⟩ := a.nm.2 i v e
      exact ⟨x, ex, k v h t m H x .refl a.hp rx⟩
    · exact t.elim⟩
theorem le_c {e : Expr} {v : V} (x : EV) (h : PE X e (tC v)) (r : ∀ m n H, az X.K m n H x v) : LE X e (lC x) :=
  ⟨PE.imp h fun σ H Q ⟨m, env, h, P, a, t, k⟩ => k x h t m H v .refl a.hp (r _ _ _)⟩
theorem le_int {i j pos} : LE X (.Constant (.int i) j pos) (lC (.int i)) := le_c _ pe_int fun _ _ _ => by rw [az]
theorem lW {i j pos} : LE X (.Constant (.bool i) j pos) (lC (.bl i)) := le_c _ pe_bl fun _ _ _ => by rw [az]
theorem le_non {j pos} : LE X (.Constant .none j pos) (lC .non) := le_c _ pe_non fun _ _ _ => by rw [az]
theorem le_str (l : List Nat) {x j pos} (h : x = S l := by decide +kernel) : LE X (.Constant (.str x) j pos) (lC (.str l)) := le_c _ pe_str fun _ _ _ => by rw [az, h]
theorem le_gint (i : Int) {x : Str} {pos : Pos} (hg : Gl X x) (hm : ∃ t, X.mg x = some (.int i t)) (hd : (x == ("__debug__" : Str)) = false := by decide) : LE X (.Name x pos) (lC (.int i)) := by
  obtain ⟨t, e⟩ := hm
  exact le_c _ (pe_glob (v := .int i) hg e ⟨t, rfl⟩ hd) fun _ _ _ => by rw [az]
theorem le_gstr (l : List Nat) {x : Str} {pos : Pos} (hg : Gl X x) (hm : ∃ t, X.mg x = some (.str (S l) t)) (hd : (x == ("__debug__" : Str)) = false := by decide) : LE X (.Name x pos) (lC (.str l)) := by
  obtain ⟨t, e⟩ := hm
  exact le_c _ (pe_glob (v := .str (S l)) hg e ⟨t, rfl⟩ hd) fun _ _ _ => by rw [az]
end
end
end Y
namespace Y
open PySem PySem.Spec PyProof.Rows L2
mutual
inductive Dat (h : EH) : Nat → EV → PyData → Prop
  | non {n : Nat} : Dat h n .non .none
  | bl {n : Nat} (b : Bool) : Dat h n (.bl b) (.bool b)
  | int {n : Nat} (i : Int) : Dat h n (.int i) (.int i)
  | str {n : Nat} (s : List Nat) : Dat h n (.str s) (.str (S s))
  | tup {n : Nat} {xs : List EV} {ds : List PyData} : lX h n xs ds → Dat h (n + 1) (.tup xs) (.tuple ds)
  | ktup {n : Nat} {xs : List EV} {ds : List PyData} : lX h n xs ds → Dat h (n + 1) (.ktup xs) (.tuple ds)
  | lst {n : Nat} {r : Nat} {xs : List EV} {ds : List PyData} : h[r]? = some (.lst xs) → lX h n xs ds → Dat h (n + 1) (.ref r) (.list ds)
inductive lX (h : EH) : Nat → List EV → List PyData → Prop
  | nil {n : Nat} : lX h n [] []
  | cons {n : Nat} {x : EV} {xs : List EV} {d : PyData} {ds : List PyData} : Dat h n x d → lX h n xs ds → lX h n (x :: xs) (d :: ds)
end
section
variable {K : PySem.W.Frag} {m : Nat → Addr} {H : Hp} {h : EH}
mutual
theorem Dat.dp (R : cJ K m h H) : ∀ (d : PyData) (n : Nat) (v : EV) (x : V), Dat h n v d → az K m h.length H v x → Dp K H x d
  | .none, _, _, _, a, r => by cases a; rw [az] at r; subst r; exact .non
  | .bool b, _, _, _, a, r => by cases a; rw [az] at r; subst r; exact .bl b
  | .int b, _, _, _, a, r => by cases a; rw [az] at r; subst r; exact .int b
  | .str b, _, _, _, a, r => by cases a; rw [az] at r; subst r; exact .str _
  | .tuple ds, _, _, _, a, r => by
    cases a with
    | tup as =>
      rw [az] at r
      obtain ⟨p, vs, e, q, t⟩ := r
      subst e
      exact .tup (SqT.of q) (lX.dp R ds _ _ _ as t)
    | ktup as =>
      rw [az] at r
      obtain ⟨p, vs, e, q, t⟩ := r
      subst e
      exact .tup q (lX.dp R ds _ _ _ as t)
  | .list ds, _, _, _, a, r => by
    cases a with
    | lst hr as =>
      rw [az] at r
      obtain ⟨hl, e⟩ := r
      subst e
      obtain ⟨vs, hv, t⟩ := R.obj _ _ hr
      exact .lst (SqL.of hv) (lX.dp R ds _ _ _ as t)
  | .dict _, _, _, _, a, _ => by cases a
theorem lX.dp (R : cJ K m h H) : ∀ (ds : List PyData) (n : Nat) (vs : List EV) (xs : List V), lX h n vs ds → aC K m h.length H vs xs → DpAll K H xs ds
  | [], _, _, _, a, r => by cases a; rw [aC] at r; subst r; exact .nil
  | d :: ds, _, _, _, a, r => by
    cases a with
    | cons a1 a2 =>
      rw [aC] at r
      obtain ⟨v, l, e, r1, r2⟩ := r
      subst e
      exact .cons (Dat.dp R d _ _ _ a1 r1) (lX.dp R ds _ _ _ a2 r2)
end
mutual
theorem Dat.dep : ∀ (d : PyData) (n : Nat) (v : EV), Dat h n v d → d.depth ≤ n ∧ d.plain = true
  | .none, _, _, a => by simp [PyData.depth, PyData.plain]
  | .bool b, _, _, a => by simp [PyData.depth, PyData.plain]
  | .int b, _, _, a => by simp [PyData.depth, PyData.plain]
  | .str b, _, _, a => by simp [PyData.depth, PyData.plain]
  | .tuple ds, _, _, a => by
    cases a with
    | tup as =>
      have := lX.dep ds _ _ as
      simp only [PyData.depth, PyData.plain]
      exact ⟨by omega, this.2⟩
    | ktup as =>
      have := lX.dep ds _ _ as
      simp only [PyData.depth, PyData.plain]
      exact ⟨by omega, this.2⟩
  | .list ds, _, _, a => by
    cases a with
    | lst hr as =>
      have := lX.dep ds _ _ as
      simp only [PyData.depth, PyData.plain]
      exact ⟨by omega, this.2⟩
  | .dict _, _, _, a => by cases a
theorem lX.dep : ∀ (ds : List PyData) (n : Nat) (vs : List EV), lX h n vs ds → PyData.depthAll ds ≤ n ∧ PyData.plainAll ds = true
  | [], _, _, a => by simp [PyData.depthAll, PyData.plainAll]
  | d :: ds, _, _, a => by
    cases a with
    | cons a1 a2 =>
      have h1 := Dat.dep d _ _ a1
      have h2 := lX.dep ds _ _ a2
      simp only [PyData.depthAll, PyData.plainAll, h1.2, h2.2]
      exact ⟨by omega, rfl⟩
end
end
abbrev LO := EV → EV → EH → EK → Prop
def LOp (K : PySem.W.Frag) (r : R2) (o : LO) : Prop :=
  ∀ (m : Nat → Addr) (h : EH) (H : Hp) (v w : EV) (x y : V) (P : EK) (Q : VK), cJ K m h H → az K m h.length H v x → az K m h.length H w y → o v w h P → Kon K m h.length H P Q → r x y H Q
def o7 (X : Cx) (f : Value → Value → Sem Value) (o : LO) : Prop := ∃ r, OpR X f r ∧ LOp X.K r o
def lOp (o : LO) (ta tb : LT) : LT := fun env h P => ta env h fun x h1 => tb env h1 fun y h2 => o x y h2 P
def lB (t : LT) : LTt := fun env h P => t env h fun v h1 => match v with
  | .bl b => P b h1
  | _ => False
theorem Kon.same {K : PySem.W.Frag} {m : Nat → Addr} {H : Hp} {h : EH} {P : EK} {Q : VK} (k : Kon K m h.length H P Q) (R : cJ K m h H) {v : EV} {x : V} (p : P v h) (r : az K m h.length H v x) : Q x H := k v h p m H x .refl R r
theorem Kon.tup {K : PySem.W.Frag} {m : Nat → Addr} {H : Hp} {h : EH} {P : EK} {Q : VK} (k : Kon K m h.length H P Q) (R : cJ K m h H) {vs : List EV} {xs : List V} (p : P (.tup vs) h) (r : aC K m h.length H vs xs) {a : Addr} (ha : H a = none) : Q (.ref a) (upd H a (.tup xs)) :=
  k _ h p m _ _ (Ex.tup1 ha) (R.tup ha) (by rw [az]; exact ⟨a, xs, rfl, upd_same, aC.ex (Ex.tup1 ha) _ _ r⟩)
theorem Kon.lst {K : PySem.W.Frag} {m : Nat → Addr} {H : Hp} {h : EH} {P : EK} {Q : VK} (k : Kon K m h.length H P Q) (R : cJ K m h H) {vs : List EV} {xs : List V} (p : P (.ref h.length) (h ++ [.lst vs])) (r : aC K m h.length H vs xs) {a : Addr} (ha : H a = none) : Q (.ref a) (upd H a (.lst xs)) := by
  have E : Ex K m h.length H (mput m h.length a) (h ++ [EO.lst vs]).length (upd H a (.lst xs)) := Ex.new ha
  refine k _ _ p _ _ _ E (R.new ha ⟨xs, upd_same, aC.ex E _ _ r⟩) ?_
  rw [az]
  exact ⟨by simp, by rw [kZ]⟩
section
variable {X : Cx} {a b : Expr} {ta tb : LT} {pos : Pos} {o : LO}
theorem up_bin {K : PySem.W.Frag} {r : R2} (s : LOp K r o) (σ : L2.St) (H : Hp) (Q : VK) (q : up K (lOp o ta tb) σ H Q) : tOp r (up K ta) (up K tb) σ H Q := by
  obtain ⟨m, env, h, P, at_, t, k⟩ := q
  refine ⟨m, env, h, _, at_, t, fun x h1 p1 m1 H1 u E1 R1 r1 => ⟨m1, env, h1, _, at_.ex E1 R1, p1, fun y h2 p2 m2 H2 w E2 R2 r2 => ?_⟩⟩
  exact s _ _ _ _ _ _ _ P Q R2 (az.ex E2 _ _ r1) r2 p2 (k.ex (E1.trans E2))
theorem bz {op : Operator} (ho : o7 X (binaryOp op) o) (ha : LE X a ta) (hb : LE X b tb) : LE X (.BinOp a op b pos) (lOp o ta tb) := by
  obtain ⟨r, hr, s⟩ := ho
  exact ⟨PE.imp (pe_op hr ha.pe hb.pe) (up_bin s)⟩
theorem jn {op : CmpOp} (ho : o7 X (compareOp op) o) (ha : LE X a ta) (hb : LE X b tb) (hm : behindInMarks op b = false := by first | exact nomark _ | with_unfolding_all rfl) : LE X (.Compare a [op] [b] pos) (lOp o ta tb) := by
  obtain ⟨r, hr, s⟩ := ho
  exact ⟨PE.imp (pe_cmpR hr ha.pe hb.pe hm) (up_bin s)⟩
theorem up_test {K : PySem.W.Frag} {t : LT} {tt : TE} (i : ∀ σ H Q, up K t σ H Q → tt σ H Q) (σ : L2.St) (H : Hp) (Q : Bool → Hp → Prop) (q : upT K (lB t) σ H Q) : tTest tt σ H Q := by
  obtain ⟨m, env, h, P, at_, t1, k⟩ := q
  refine i σ H _ ⟨m, env, h, _, at_, t1, fun v h1 p1 m1 H1 x E1 R1 r1 => ?_⟩
  cases v with
  | bl b =>
    rw [az] at r1
    exact ⟨b, r1, k b h1 p1 m1 H1 E1 R1⟩
  | _ => exact p1.elim
theorem cR {op : CmpOp} (ho : o7 X (compareOp op) o) (ha : LE X a ta) (hb : LE X b tb) (hm : behindInMarks op b = false := by first | exact nomark _ | with_unfolding_all rfl) : LTe X (.Compare a [op] [b] pos) (lB (lOp o ta tb)) := by
  obtain ⟨r, hr, s⟩ := ho
  exact ⟨PT.imp (pt_cmpR hr ha.pe hb.pe hm) (up_test (up_bin s))⟩
def bH (o o' : LO) (ta tb tc : LT) : LT := fun env h P => ta env h fun x h1 => tb env h1 fun y h2 => o x y h2 fun z h3 => match z with
  | .bl k => if k = true then tc env h3 fun w h4 => o' y w h4 P else P (.bl false) h3
  | _ => False
theorem up_chain {K : PySem.W.Frag} {r r' : R2} {o o' : LO} {tc : LT} (s : LOp K r o) (s' : LOp K r' o') (σ : L2.St) (H : Hp) (Q : VK) (q : up K (bH o o' ta tb tc) σ H Q) : tChain r r' (up K ta) (up K tb) (up K tc) σ H Q := by
  obtain ⟨m, env, h, P, at_, t, k⟩ := q
  refine ⟨m, env, h, _, at_, t, fun x h1 p1 m1 H1 u E1 R1 r1 => ⟨m1, env, h1, _, at_.ex E1 R1, p1, fun y h2 p2 m2 H2 w E2 R2 r2 => ?_⟩⟩
  refine s _ _ _ _ _ _ _ _ _ R2 (az.ex E2 _ _ r1) r2 p2 fun z h3 p3 m3 H3 zz E3 R3 r3 => ?_
  cases z with
  | bl c =>
    rw [az] at r3
    refine ⟨c, r3, ?_⟩
    cases c with
    | false => exact k _ _ p3 m3 H3 _ ((E1.trans E2).trans E3) R3 (by rw [az])
    | true => exact ⟨m3, env, h3, _, (at_.ex (E1.trans E2) R2).ex E3 R3, p3, fun w' h4 p4 m4 H4 ww E4 R4 r4 => s' _ _ _ _ _ _ _ P Q R4 (az.ex (E3.trans E4) _ _ r2) r4 p4 (k.ex (((E1.trans E2).trans E3).trans E4))⟩
  | _ => exact p3.elim
theorem le_chain {c : Expr} {tc : LT} {op op' : CmpOp} {o o' : LO} (ho : o7 X (compareOp op) o) (ho' : o7 X (compareOp op') o') (ha : LE X a ta) (hb : LE X b tb) (hc : LE X c tc)
    (hm : lastMarks [op, op'] [b, c] = false := by with_unfolding_all rfl) : LE X (.Compare a [op, op'] [b, c] pos) (bH o o' ta tb tc) := by
  obtain ⟨r, hr, s⟩ := ho
  obtain ⟨r', hr', s'⟩ := ho'
  exact ⟨PE.imp (pe_chain hr hr' ha.pe hb.pe hc.pe hm) (up_chain s s')⟩
end
def bG : LO := fun v w h P => match v, w with
  | .int i, .int j => P (.int (i + j)) h
  | .int i, .bl b => P (.int (i + b2i b)) h
  | .str a, .str b => a.length + b.length ≤ sizeLine ∧ P (.str (a ++ b)) h
  | .tup a, .tup b => a.length + b.length ≤ sizeLine ∧ P (.tup (a ++ b)) h
  | .ref l, .ref r => match h[l]?, h[r]? with
    | some (.lst a), some (.lst b) => a.length + b.length ≤ sizeLine ∧ P (.ref h.length) (h ++ [.lst (a ++ b)])
    | _, _ => False
  | _, _ => False
theorem S_len (a : List Nat) : (S a).length = a.length := by
  show (S a).cps.size = _
  simp
theorem S_app (a b : List Nat) : S a ++ S b = S (a ++ b) := by
  show (⟨(a.toArray ++ b.toArray)⟩ : Str) = _
  simp
theorem bO {X : Cx} : o7 X (binaryOp .Add) bG := by
  refine ⟨_, OpR.or op_add (OpR.or op_add_ib (OpR.or op_add_str (OpR.or op_catA op_cat))), ?_⟩
  intro m h H v w x y P Q R rx ry q k
  unfold bG at q
  split at q
  · rw [az] at rx ry
    exact .inl ⟨_, _, rx, ry, k.same R q (by rw [az])⟩
  · rw [az] at rx
    rw [az] at ry
    exact .inr (.inl ⟨_, _, rx, ry, k.same R q (by rw [az])⟩)
  · rw [az] at rx ry
    exact .inr (.inr (.inl ⟨_, _, rx, ry, by rw [S_len, S_len]; exact q.1, by rw [S_app]; exact k.same R q.2 (by rw [az])⟩))
  · rename_i a b
    rw [az] at rx ry
    obtain ⟨p, xs, rfl, hx, r1⟩ := rx
    obtain ⟨p', ys, rfl, hy, r2⟩ := ry
    refine .inr (.inr (.inr (.inl ⟨p, p', xs, ys, rfl, rfl, SqT.of hx, SqT.of hy, by rw [← r1.length, ← r2.length]; exact q.1, fun e => ?_, fun _ e => ?_, fun _ _ z hz => ?_⟩)))
    · subst e
      have : a = [] := by cases a with
        | nil => rfl
        | cons _ _ => have := r1.length; simp at this
      subst this
      exact k.same R q.2 (by rw [az]; exact ⟨p', ys, rfl, hy, r2⟩)
    · subst e
      have : b = [] := by cases b with
        | nil => rfl
        | cons _ _ => have := r2.length; simp at this
      subst this
      refine k.same R q.2 ?_
      rw [List.append_nil, az]
      exact ⟨p, xs, rfl, hx, r1⟩
    · exact k.tup R q.2 (r1.app r2) hz
  · rw [az] at rx ry
    obtain ⟨_, rfl⟩ := rx
    obtain ⟨_, rfl⟩ := ry
    split at q
    · rename_i e1 e2
      obtain ⟨xs, a1, r1⟩ := R.obj _ _ e1
      obtain ⟨ys, a2, r2⟩ := R.obj _ _ e2
      refine .inr (.inr (.inr (.inr ⟨_, _, xs, ys, rfl, rfl, a1, a2, by rw [← r1.length, ← r2.length]; exact q.1, fun z hz => ?_⟩)))
      exact k.lst R q.2 (r1.app r2) hz
    · exact q.elim
  · exact q.elim
def iW (C : Int → Int → Prop) (f : Int → Int → Int) : LO := fun v w h P => match v, w with
  | .int i, .int j => C i j ∧ P (.int (f i j)) h
  | _, _ => False
def fB (f : Int → Int → EV) : LO := fun v w h P => match v, w with
  | .int i, .int j => P (f i j) h
  | _, _ => False
theorem lo_int {X : Cx} {op : Operator} {C : Int → Int → Prop} {f : Int → Int → Int} (hr : OpR X (binaryOp op) (rI C fun i j => .int (f i j))) : o7 X (binaryOp op) (iW C f) := by
  refine ⟨_, hr, ?_⟩
  intro m h H v w x y P Q R rx ry q k
  unfold iW at q
  split at q
  · rw [az] at rx ry
    exact ⟨_, _, rx, ry, q.1, k.same R q.2 (by rw [az])⟩
  · exact q.elim
theorem lo_intP {X : Cx} {fn : Value → Value → Sem Value} {f : Int → Int → EV} {g : Int → Int → V} (hr : OpR X fn (rI0 g)) (e : ∀ K m n H i j, az K m n H (f i j) (g i j)) : o7 X fn (fB f) := by
  refine ⟨_, hr, ?_⟩
  intro m h H v w x y P Q R rx ry q k
  unfold fB at q
  split at q
  · rw [az] at rx ry
    exact ⟨_, _, rx, ry, k.same R q (e _ _ _ _ _ _)⟩
  · exact q.elim
abbrev subE : LO := fB fun i j => .int (i - j)
abbrev fdivE : LO := iW CDivW fun i j => i / j
abbrev modE : LO := iW (fun _ j => 0 < j) fun i j => i % j
abbrev powE : LO := iW CPow fun i j => i ^ j.toNat
theorem lo_sub {X : Cx} : o7 X (binaryOp .Sub) subE := lo_intP op_sub fun _ _ _ _ _ _ => by rw [az]
theorem lo_fdiv {X : Cx} : o7 X (binaryOp .FloorDiv) fdivE := lo_int op_fdivW
theorem lo_mod {X : Cx} : o7 X (binaryOp .Mod) modE := lo_int op_mod
theorem lo_pow {X : Cx} : o7 X (binaryOp .Pow) powE := lo_int op_pow
abbrev ltE : LO := fB fun i j => .bl (decide (i < j))
abbrev leE : LO := fB fun i j => .bl (decide (i ≤ j))
abbrev gtE : LO := fB fun i j => .bl (decide (j < i))
abbrev geE : LO := fB fun i j => .bl (decide (j ≤ i))
theorem lo_lt {X : Cx} : o7 X (compareOp .Lt) ltE := lo_intP op_lt fun _ _ _ _ _ _ => by rw [az]
theorem lo_le {X : Cx} : o7 X (compareOp .LtE) leE := lo_intP op_le fun _ _ _ _ _ _ => by rw [az]
theorem lo_gt {X : Cx} : o7 X (compareOp .Gt) gtE := lo_intP op_gt fun _ _ _ _ _ _ => by rw [az]
theorem lo_ge {X : Cx} : o7 X (compareOp .GtE) geE := lo_intP op_ge fun _ _ _ _ _ _ => by rw [az]
def eqE (neg : Bool) : LO := fun v w h P => match v, w with
  | .int i, .int j => P (.bl (neg ^^ decide (i = j))) h
  | .str a, .str b => P (.bl (neg ^^ decide (a = b))) h
  | .bl a, .bl b => P (.bl (neg ^^ decide (a = b))) h
  | v, w => ∃ d e, Dat h 60 v d ∧ Dat h 60 w e ∧ P (.bl (neg ^^ PyData.eqv d e)) h
theorem S_inj {a b : List Nat} : S a = S b ↔ a = b := by
  constructor
  · intro e
    have : a.toArray = b.toArray := congrArg Str.cps e
    simpa using this
  · rintro rfl; rfl
theorem beqD {α : Type} [BEq α] [LawfulBEq α] [DecidableEq α] (a b : α) : (a == b) = decide (a = b) := by
  rw [Bool.eq_iff_iff, beq_iff_eq, decide_eq_true_eq]
theorem eq_sim {K : PySem.W.Frag} {m : Nat → Addr} {h : EH} {H : Hp} {v w : EV} {x y : V} {P : EK} {Q : VK} {neg : Bool} (R : cJ K m h H) (rx : az K m h.length H v x) (ry : az K m h.length H w y) (q : eqE neg v w h P) (k : Kon K m h.length H P Q) :
    ∃ d e, Dp K H x d ∧ Dp K H y e ∧ d.depth ≤ 60 ∧ d.plain = true ∧ e.plain = true ∧ Q (.bl (neg ^^ PyData.eqv d e)) H := by
  unfold eqE at q
  split at q
  · rename_i i j
    rw [az] at rx ry; subst rx ry
    refine ⟨_, _, .int i, .int j, by simp [PyData.depth], rfl, rfl, ?_⟩
    rw [show PyData.eqv (.int i) (.int j) = decide (i = j) by simp only [PyData.eqv]; exact beqD i j]
    exact k.same R q (by rw [az])
  · rename_i i j
    rw [az] at rx ry; subst rx ry
    refine ⟨_, _, .str _, .str _, by simp [PyData.depth], rfl, rfl, ?_⟩
    rw [show PyData.eqv (.str (S i)) (.str (S j)) = decide (i = j) by simp only [PyData.eqv]; rw [beqD]; exact decide_eq_decide.mpr S_inj]
    exact k.same R q (by rw [az])
  · rename_i i j
    rw [az] at rx ry; subst rx ry
    refine ⟨_, _, .bl _, .bl _, by simp [PyData.depth], rfl, rfl, ?_⟩
    rw [show PyData.eqv (.bool i) (.bool j) = decide (i = j) by simp only [PyData.eqv]; exact beqD i j]
    exact k.same R q (by rw [az])
  · obtain ⟨d, e, d1, e1, p⟩ := q
    exact ⟨d, e, Dat.dp R _ _ _ _ d1 rx, Dat.dp R _ _ _ _ e1 ry, (Dat.dep _ _ _ d1).1, (Dat.dep _ _ _ d1).2, (Dat.dep _ _ _ e1).2, k.same R p (by rw [az])⟩
def rEqP (neg : Bool) (K : PySem.W.Frag) : R2 := fun x y H Q => ∃ d e, Dp K H x d ∧ Dp K H y e ∧ d.depth ≤ 60 ∧ d.plain = true ∧ e.plain = true ∧ Q (.bl (neg ^^ PyData.eqv d e)) H
theorem gD {X : Cx} (hu : X.A.units + 64 < cLine) : o7 X (compareOp .Eq) (eqE false) := by
  refine ⟨rEqP false X.K, ?_, fun m h H v w x y P Q R rx ry q k => eq_sim R rx ry q k⟩
  intro pins s σ H x y v u Q I rx ry h
  obtain ⟨d, e, hd, he, dd, pd, pe, q⟩ := h
  obtain ⟨as, r1⟩ := Dp.reads I d x v hd rx
  obtain ⟨bs, r2⟩ := Dp.reads I e y u he ry
  exact PySem.SeqAt.eq_plain r1 r2 pd pe (by omega) ⟨.bl _, H, I, rfl, by simpa using q⟩
theorem lo_ne {X : Cx} (hu : X.A.units + 64 < cLine) : o7 X (compareOp .NotEq) (eqE true) := by
  refine ⟨rEqP true X.K, ?_, fun m h H v w x y P Q R rx ry q k => eq_sim R rx ry q k⟩
  intro pins s σ H x y v u Q I rx ry h
  obtain ⟨d, e, hd, he, dd, pd, pe, q⟩ := h
  obtain ⟨as, r1⟩ := Dp.reads I d x v hd rx
  obtain ⟨bs, r2⟩ := Dp.reads I e y u he ry
  exact PySem.SeqAt.ne_plain r1 r2 pd pe (by omega) ⟨.bl _, H, I, rfl, by simpa using q⟩
end Y
namespace Y
open PySem PySem.Spec PyProof.Rows L2
def gW (v : EV) (h : EH) (P : Bool → Prop) : Prop := match v with
  | .bl b => P b
  | .non => P false
  | .int i => P (i != 0)
  | .str s => s.length ≤ sizeLine ∧ P (!s.isEmpty)
  | .tup xs => P (!xs.isEmpty)
  | .ref r => match h[r]? with
    | some (.lst xs) => P (!xs.isEmpty)
    | some (.dic xs) => P (!xs.isEmpty)
    | _ => False
  | _ => False
def lT (t : LT) : LTt := fun env h P => t env h fun v h1 => gW v h1 fun b => P b h1
def iY (t u : LTt) : LTt := fun env h P => t env h fun c h1 => if c = true then u env h1 P else P false h1
def lOr (t u : LTt) : LTt := fun env h P => t env h fun c h1 => if c = true then P true h1 else u env h1 P
def cD (t : LTt) : LTt := fun env h P => t env h fun c h1 => P (!c) h1
def lIf (t : LTt) (ta tb : LT) : LT := fun env h P => t env h fun c h1 => if c = true then ta env h1 P else tb env h1 P
def bD (ta tb : LT) : LT := fun env h P => ta env h fun v h1 => match v with
  | .bl c => if c = true then tb env h1 P else P (.bl false) h1
  | _ => False
def jJ (ta tb : LT) : LT := fun env h P => ta env h fun v h1 => match v with
  | .bl c => if c = true then P (.bl true) h1 else tb env h1 P
  | _ => False
def dO (ta : LT) : LT := fun env h P => ta env h fun v h1 => match v with
  | .bl c => P (.bl (!c)) h1
  | _ => False
section
variable {K : PySem.W.Frag} {m : Nat → Addr} {H : Hp} {h : EH}
theorem aC.isEmpty {n : Nat} {es : List EV} {vs : List V} (r : aC K m n H es vs) : vs.isEmpty = es.isEmpty := by
  cases es with
  | nil => rw [aC] at r; subst r; rfl
  | cons a l => rw [aC] at r; obtain ⟨v, t, rfl, _, _⟩ := r; rfl
theorem bj.isEmpty {n : Nat} {es : List (EV × EV)} {vs : List (L2.Key × V)} (r : bj K m n H es vs) : vs.isEmpty = es.isEmpty := by
  cases es with
  | nil => rw [bj] at r; subst r; rfl
  | cons a l => rw [bj] at r; obtain ⟨v, t, u, rfl, _, _⟩ := r; rfl
theorem tru_sim {v : EV} {x : V} {P : Bool → Prop} (R : cJ K m h H) (r : az K m h.length H v x) (q : gW v h P) : ∃ k, TruV K x H k ∧ P k := by
  unfold gW at q
  split at q
  · rw [az] at r; subst r; exact ⟨_, rfl, q⟩
  · rw [az] at r; subst r; exact ⟨_, rfl, q⟩
  · rw [az] at r; subst r; exact ⟨_, rfl, q⟩
  · rename_i s
    rw [az] at r; subst r
    refine ⟨_, ⟨by rw [S_len]; exact q.1, rfl⟩, ?_⟩
    rw [S_len]
    have e : (((s.length : Nat) : Int) != 0) = !s.isEmpty := by
      cases s <;> simp
      omega
    rw [e]; exact q.2
  · rw [az] at r
    obtain ⟨a, vs, rfl, hs, r⟩ := r
    exact ⟨_, .inr (.inl ⟨vs, SqT.of hs, rfl⟩), by rw [r.isEmpty]; exact q⟩
  · rw [az] at r
    obtain ⟨_, rfl⟩ := r
    split at q
    · rename_i e
      obtain ⟨vs, a, r⟩ := R.obj _ _ e
      exact ⟨_, .inl ⟨vs, SqL.of a, rfl⟩, by rw [r.isEmpty]; exact q⟩
    · rename_i e
      obtain ⟨vs, a, r⟩ := R.obj _ _ e
      exact ⟨_, .inr (.inr ⟨vs, a, rfl⟩), by rw [r.isEmpty]; exact q⟩
    · exact q.elim
  · exact q.elim
end
section
variable {X : Cx} {a b c e : Expr} {es : List Expr} {ta tb : LT} {t u : LTt} {pos : Pos} {rest : List Expr}
theorem dJ (ha : LE X a ta) (he : ∀ whole, isTrue a X.env whole = (do let v ← whole; standAt a.pos; holding [v] (truthy v)) := by intro _; rfl) : LTe X a (lT ta) := by
  refine ⟨PT.imp (pt_truth ha.pe he) fun σ H Q ⟨m, env, h, P, at_, t1, k⟩ => ⟨m, env, h, _, at_, t1, fun v h1 p1 m1 H1 x E1 R1 r1 => ?_⟩⟩
  obtain ⟨c, tc, pc⟩ := tru_sim R1 r1 p1
  exact ⟨c, tc, k c h1 pc m1 H1 E1 R1⟩
theorem LWe.lt (w : LWe X e t) : LTe X e t := ⟨w.pw.pt⟩
theorem lw_and1 (ha : LTe X a t) : LWe X (.BoolOp .And [a] pos) t := ⟨pw_and1 ha.pt⟩
theorem lw_or1 (ha : LTe X a t) : LWe X (.BoolOp .Or [a] pos) t := ⟨pw_or1 ha.pt⟩
theorem lw_and (ha : LTe X a t) (hb : LWe X (.BoolOp .And (b :: rest) pos) u) : LWe X (.BoolOp .And (a :: b :: rest) pos) (iY t u) := by
  refine ⟨PW.imp (pw_and ha.pt hb.pw) fun σ H Q ⟨m, env, h, P, at_, t1, k⟩ => ⟨m, env, h, _, at_, t1, fun c h1 p1 m1 H1 E1 R1 => ?_⟩⟩
  cases c with
  | true =>
    rw [if_pos rfl] at p1 ⊢
    exact ⟨m1, env, h1, P, at_.ex E1 R1, p1, fun c2 h2 p2 m2 H2 E2 R2 => k c2 h2 p2 m2 H2 (E1.trans E2) R2⟩
  | false =>
    rw [if_neg Bool.false_ne_true] at p1 ⊢
    exact k _ _ p1 m1 H1 E1 R1
theorem lw_or (ha : LTe X a t) (hb : LWe X (.BoolOp .Or (b :: rest) pos) u) : LWe X (.BoolOp .Or (a :: b :: rest) pos) (lOr t u) := by
  refine ⟨PW.imp (pw_or ha.pt hb.pw) fun σ H Q ⟨m, env, h, P, at_, t1, k⟩ => ⟨m, env, h, _, at_, t1, fun c h1 p1 m1 H1 E1 R1 => ?_⟩⟩
  cases c with
  | false =>
    rw [if_neg Bool.false_ne_true] at p1 ⊢
    exact ⟨m1, env, h1, P, at_.ex E1 R1, p1, fun c2 h2 p2 m2 H2 E2 R2 => k c2 h2 p2 m2 H2 (E1.trans E2) R2⟩
  | true =>
    rw [if_pos rfl] at p1 ⊢
    exact k _ _ p1 m1 H1 E1 R1
theorem jK (ha : LTe X a t) : LTe X (.UnaryOp .Not a pos) (cD t) :=
  ⟨PT.imp (pt_not ha.pt) fun σ H Q ⟨m, env, h, P, at_, t1, k⟩ => ⟨m, env, h, _, at_, t1, fun c h1 p1 m1 H1 E1 R1 => k _ _ p1 m1 H1 E1 R1⟩⟩
theorem le_if (hc : LTe X c t) (ha : LE X a ta) (hb : LE X b tb) : LE X (.IfExp c a b pos) (lIf t ta tb) := by
  refine ⟨PE.imp (pe_ifExp hc.pt ha.pe hb.pe) fun σ H Q ⟨m, env, h, P, at_, t1, k⟩ => ⟨m, env, h, _, at_, t1, fun c h1 p1 m1 H1 E1 R1 => ?_⟩⟩
  cases c with
  | true =>
    rw [if_pos rfl] at p1 ⊢
    exact ⟨m1, env, h1, P, at_.ex E1 R1, p1, k.ex E1⟩
  | false =>
    rw [if_neg Bool.false_ne_true] at p1 ⊢
    exact ⟨m1, env, h1, P, at_.ex E1 R1, p1, k.ex E1⟩
theorem jL {op} (ha : LE X a ta) : LE X (.BoolOp op [a] pos) ta := ⟨pe_one ha.pe⟩
theorem iw (ha : LE X a ta) (hb : LE X (.BoolOp .And (b :: rest) pos) tb) : LE X (.BoolOp .And (a :: b :: rest) pos) (bD ta tb) := by
  refine ⟨PE.imp (pe_and ha.pe hb.pe) fun σ H Q ⟨m, env, h, P, at_, t1, k⟩ => ⟨m, env, h, _, at_, t1, fun v h1 p1 m1 H1 x E1 R1 r1 => ?_⟩⟩
  cases v with
  | bl c =>
    rw [az] at r1
    refine ⟨c, r1, ?_⟩
    cases c with
    | true =>
      exact ⟨m1, env, h1, P, at_.ex E1 R1, p1, k.ex E1⟩
    | false => exact k _ _ p1 m1 H1 _ E1 R1 (by rw [az])
  | _ => exact p1.elim
theorem le_not (ha : LE X a ta) : LE X (.UnaryOp .Not a pos) (dO ta) := by
  refine ⟨PE.imp (pe_not ha.pe) fun σ H Q ⟨m, env, h, P, at_, t1, k⟩ => ⟨m, env, h, _, at_, t1, fun v h1 p1 m1 H1 x E1 R1 r1 => ?_⟩⟩
  cases v with
  | bl c =>
    rw [az] at r1
    exact ⟨c, r1, k _ _ p1 m1 H1 _ E1 R1 (by rw [az])⟩
  | _ => exact p1.elim
end
def ak : LA := fun _ h P => P [] h
def aa (ta : LT) (tr : LA) : LA := fun env h P => ta env h fun x h1 => tr env h1 fun xs h2 => P (x :: xs) h2
def aG (t : LA) : LT := fun env h P => t env h fun xs h1 => xs.length ≤ sizeLine ∧ P (.tup xs) h1
def aU (t : LA) : LT := fun env h P => t env h fun xs h1 => xs.length ≤ sizeLine ∧ P (.ref h1.length) (h1 ++ [.lst xs])
section
variable {X : Cx} {a b c e : Expr} {es : List Expr} {ta tb : LT} {t : LA} {pos : Pos}
theorem aq : LAs X [] ak := ⟨PA.imp pa_nil fun σ H Q ⟨m, env, h, P, at_, t1, k⟩ => k _ _ t1 m H [] .refl at_.hp .nil⟩
theorem aj (ha : LE X e ta) (hr : LAs X es t) (hs : starEach (e :: es) X.env = (false, eval e X.env) :: starEach es X.env := by rfl) : LAs X (e :: es) (aa ta t) :=
  ⟨PA.imp (pa_cons ha.pe hr.pa hs) fun σ H Q ⟨m, env, h, P, at_, t1, k⟩ => ⟨m, env, h, _, at_, t1, fun x h1 p1 m1 H1 v E1 R1 r1 =>
    ⟨m1, env, h1, _, at_.ex E1 R1, p1, fun xs h2 p2 m2 H2 vs E2 R2 r2 => k _ _ p2 m2 H2 _ (E1.trans E2) R2 (.cons (az.ex E2 _ _ r1) r2)⟩⟩⟩
theorem aR {k1} (ht : LAs X es t) : LE X (.Tuple es k1 pos) (aG t) :=
  ⟨PE.imp (pe_tup ht.pa) fun σ H Q ⟨m, env, h, P, at_, t1, k⟩ => ⟨m, env, h, _, at_, t1, fun xs h1 p1 m1 H1 vs E1 R1 r1 =>
    ⟨by rw [← r1.length]; exact p1.1, fun p hp => (k.ex E1).tup R1 p1.2 r1 hp⟩⟩⟩
theorem bK (ht : LAs X es t) : LE X (.List es pos) (aU t) :=
  ⟨PE.imp (pe_lst ht.pa) fun σ H Q ⟨m, env, h, P, at_, t1, k⟩ => ⟨m, env, h, _, at_, t1, fun xs h1 p1 m1 H1 vs E1 R1 r1 =>
    ⟨by rw [← r1.length]; exact p1.1, fun p hp => (k.ex E1).lst R1 p1.2 r1 hp⟩⟩⟩
end
abbrev LC := List EV → EH → EK → Prop
def LCl (K : PySem.W.Frag) (r : List V → Hp → VK → Prop) (c : LC) : Prop :=
  ∀ (m : Nat → Addr) (h : EH) (H : Hp) (vs : List EV) (xs : List V) (P : EK) (Q : VK), cJ K m h H → aC K m h.length H vs xs → c vs h P → Kon K m h.length H P Q → r xs H Q
def jX (X : Cx) (f : Value) (c : LC) : Prop := ∃ r, CallR X f r ∧ LCl X.K r c
def lCB (c : LC) (t : LA) : LT := fun env h P => t env h fun vs h1 => c vs h1 P
theorem CallR.or {X : Cx} {f : Value} {r r' : List V → Hp → VK → Prop} (a : CallR X f r) (b : CallR X f r') : CallR X f (fun xs H Q => r xs H Q ∨ r' xs H Q) := by
  intro pins s σ H xs us Q I rv q
  rcases q with q | q
  · exact a pins s σ H xs us Q I rv q
  · exact b pins s σ H xs us Q I rv q
theorem aC.one_inv {K : PySem.W.Frag} {m : Nat → Addr} {n : Nat} {H : Hp} {x : EV} {vs : List V} (r : aC K m n H [x] vs) : ∃ v, vs = [v] ∧ az K m n H x v := by
  rw [aC] at r
  obtain ⟨v, l, rfl, a, b⟩ := r
  rw [aC] at b
  subst b
  exact ⟨v, rfl, a⟩
theorem aC.two_inv {K : PySem.W.Frag} {m : Nat → Addr} {n : Nat} {H : Hp} {x y : EV} {vs : List V} (r : aC K m n H [x, y] vs) : ∃ v w, vs = [v, w] ∧ az K m n H x v ∧ az K m n H y w := by
  rw [aC] at r
  obtain ⟨v, l, rfl, a, b⟩ := r
  obtain ⟨w, rfl, c⟩ := b.one_inv
  exact ⟨v, w, rfl, a, c⟩
section
variable {X : Cx} {e : Expr} {es : List Expr} {c : LC} {t : LA} {pos p : Pos} {x : Str} {id T : String}
theorem up_cb {K : PySem.W.Frag} {r : List V → Hp → VK → Prop} (s : LCl K r c) (σ : L2.St) (H : Hp) (Q : VK) (q : up K (lCB c t) σ H Q) : tCB r (upA K t) σ H Q := by
  obtain ⟨m, env, h, P, at_, t1, k⟩ := q
  exact ⟨m, env, h, _, at_, t1, fun vs h1 p1 m1 H1 xs E1 R1 r1 => s _ _ _ _ _ _ _ R1 r1 p1 (k.ex E1)⟩
theorem aQ (hc : jX X (.builtin id) c) (hg : Gl X x) (hm : X.mg x = none) (hv : bootBuiltins x = some (.builtin id)) (ha : LAs X (e :: es) t) (hn : x ≠ "__name__" := by decide) (hdb : (x == ("__debug__" : Str)) = false := by decide)
    (he : starEach (e :: es) X.env = (false, eval e X.env) :: starEach es X.env := by rfl) (hpl : (backTo pos (starEach es X.env)).any (·.1) = false := by rfl) : LE X (.Call (.Name x p) (e :: es) [] pos) (lCB c t) := by
  obtain ⟨r, hr, s⟩ := hc
  exact ⟨PE.imp (pe_callB hr hg hm hv ha.pa hn hdb he hpl) (up_cb s)⟩
theorem fj (hc : jX X (.type T) c) (hg : Gl X x) (hm : X.mg x = none) (hv : bootBuiltins x = some (.type T)) (ha : LAs X (e :: es) t) (hn : x ≠ "__name__" := by decide) (hdb : (x == ("__debug__" : Str)) = false := by decide)
    (he : starEach (e :: es) X.env = (false, eval e X.env) :: starEach es X.env := by rfl) (hpl : (backTo pos (starEach es X.env)).any (·.1) = false := by rfl) : LE X (.Call (.Name x p) (e :: es) [] pos) (lCB c t) := by
  obtain ⟨r, hr, s⟩ := hc
  exact ⟨PE.imp (pe_callTy hr hg hm hv ha.pa hn hdb he hpl) (up_cb s)⟩
end
abbrev LM := EV → List EV → EH → EK → Prop
def LMl (K : PySem.W.Frag) (T : String) (r : V → List V → Hp → VK → Prop) (c : LM) : Prop :=
  ∀ (m : Nat → Addr) (h : EH) (H : Hp) (v : EV) (x : V) (vs : List EV) (xs : List V) (P : EK) (Q : VK), cJ K m h H → az K m h.length H v x → aC K m h.length H vs xs → c v vs h P → Kon K m h.length H P Q → r x xs H Q
def isTy (T : String) (v : EV) (h : EH) : Prop := match v with
  | .str _ => T = "str"
  | .ref r => match h[r]? with
    | some (.lst _) => T = "list"
    | some (.dic _) => T = "dict"
    | _ => False
  | _ => False
def lBM (T : String) (c : LM) (to : LT) (t : LA) : LT := fun env h P => to env h fun x h1 => isTy T x h1 ∧ t env h1 fun vs h2 => c x vs h2 P
theorem isTy_sim {K : PySem.W.Frag} {m : Nat → Addr} {H : Hp} {h : EH} {T : String} {v : EV} {x : V} (R : cJ K m h H) (r : az K m h.length H v x) (q : isTy T v h) : tyV K T x H := by
  unfold isTy at q
  split at q
  · rw [az] at r; subst r; exact q
  · rw [az] at r
    obtain ⟨_, rfl⟩ := r
    split at q
    · rename_i e
      obtain ⟨vs, a, _⟩ := R.obj _ _ e
      exact .inl ⟨q, vs, SqL.of a⟩
    · rename_i e
      obtain ⟨vs, a, _⟩ := R.obj _ _ e
      exact .inr (.inr (.inl ⟨q, .inl ⟨vs, a⟩⟩))
    · exact q.elim
  · exact q.elim
section
variable {X : Cx} {o e : Expr} {es : List Expr} {to : LT} {t : LA} {name : Str} {apos cpos : Pos} {T id : String} {r : V → List V → Hp → VK → Prop} {c : LM}
theorem le_bm (pa : PlainAttrs T) (slot : Slot T name id) (hty : typeOf (.builtin id) = pure (.type "method_descriptor")) (hm : MtR X id r) (s : LMl X.K T r c) (ho : LE X o to) (ha : LAs X (e :: es) t)
    (hbase : attributeBase o name X.env (eval o X.env) = eval o X.env := by rfl)
    (hfew : ((backTo cpos (starEach (e :: es) X.env)).all (fun x => !x.1) && (backToKw cpos (keywordEach [] X.env)).all (fun x => x.1.isSome)
      && decide ((e :: es).length + ([] : List Keyword).length + (if ([] : List Keyword).isEmpty then 0 else 1) < 30)) = true := by rfl)
    (hline : (apos.endLine == cpos.line) = true := by rfl) (hs : starEach (e :: es) X.env = (false, eval e X.env) :: starEach es X.env := by rfl) (hplain : (backTo cpos (starEach es X.env)).any (·.1) = false := by rfl) :
    LE X (.Call (.Attribute o name apos) (e :: es) [] cpos) (lBM T c to t) :=
  ⟨PE.imp (pe_bm pa slot hty hm ho.pe ha.pa hbase hfew hline hs hplain) fun σ H Q ⟨m, env, h, P, at_, t1, k⟩ => ⟨m, env, h, _, at_, t1, fun x h1 p1 m1 H1 v E1 R1 r1 =>
    ⟨isTy_sim R1 r1 p1.1, m1, env, h1, _, at_.ex E1 R1, p1.2, fun vs h2 p2 m2 H2 xs E2 R2 r2 => s _ _ _ _ _ _ _ _ _ R2 (az.ex E2 _ _ r1) r2 p2 (k.ex (E1.trans E2))⟩⟩⟩
end
def LIxR (X : Cx) (o : LO) : Prop := ∃ r, IxR X r ∧ LOp X.K r o
theorem gQ {X : Cx} {a b : Expr} {ta tb : LT} {o : LO} {pos : Pos} (hr : LIxR X o) (ha : LE X a ta) (hb : LE X b tb) (hs : PlainIx b := by exact fun _ _ => rfl) : LE X (.Subscript a b pos) (lOp o ta tb) := by
  obtain ⟨r, h, s⟩ := hr
  exact ⟨PE.imp (pe_ix h ha.pe hb.pe hs) (up_bin s)⟩
def ixE : LO := fun v w h P => match w with
  | .int i => match v with
    | .tup xs => match atI xs i with
      | some x => P x h
      | none => False
    | .ktup xs => match atI xs i with
      | some x => P x h
      | none => False
    | .str s => s.length ≤ sizeLine ∧ match atI s i with
      | some x => P (.str [x]) h
      | none => False
    | .ref r => match h[r]? with
      | some (.lst xs) => match atI xs i with
        | some x => P x h
        | none => False
      | some (.frz xs) => match atI xs i with
        | some x => P x h
        | none => False
      | _ => False
    | _ => False
  | _ => False
theorem aC.atI {K : PySem.W.Frag} {m : Nat → Addr} {n : Nat} {H : Hp} {es : List EV} {vs : List V} {i : Int} {x : EV} (r : aC K m n H es vs) (e : atI es i = some x) : ∃ v, L2.atI vs i = some v ∧ az K m n H x v := by
  unfold L2.atI at e ⊢
  rw [← r.length]
  cases q : ixN es.length i with
  | none => rw [q] at e; cases e
  | some j =>
    rw [q] at e
    exact r.at e
theorem lix {X : Cx} : LIxR X ixE := by
  refine ⟨_, ix_seq, ?_⟩
  intro m h H v w x y P Q R rx ry q k
  unfold ixE at q
  split at q
  · rw [az] at ry
    subst ry
    split at q
    · rw [az] at rx
      obtain ⟨a, vs, rfl, hs, r⟩ := rx
      split at q
      · rename_i e
        obtain ⟨u, a1, r1⟩ := r.atI e
        exact .inr (.inl ⟨_, _, _, u, rfl, rfl, SqT.of hs, a1, k.same R q r1⟩)
      · exact q.elim
    · rw [az] at rx
      obtain ⟨a, vs, rfl, hs, r⟩ := rx
      split at q
      · rename_i e
        obtain ⟨u, a1, r1⟩ := r.atI e
        exact .inr (.inl ⟨_, _, _, u, rfl, rfl, hs, a1, k.same R q r1⟩)
      · exact q.elim
    · rw [az] at rx
      subst rx
      obtain ⟨q1, q⟩ := q
      split at q
      · rename_i e
        exact .inr (.inr ⟨_, _, _, rfl, rfl, by rw [S_len]; exact q1, by simpa using e, k.same R q (by rw [az])⟩)
      · exact q.elim
    · rw [az] at rx
      obtain ⟨_, rfl⟩ := rx
      split at q
      · rename_i e
        obtain ⟨vs, a, r⟩ := R.obj _ _ e
        split at q
        · rename_i e
          obtain ⟨u, a1, r1⟩ := r.atI e
          exact .inl ⟨_, _, _, u, rfl, rfl, SqL.of a, a1, k.same R q r1⟩
        · exact q.elim
      · rename_i e
        obtain ⟨vs, a, r⟩ := R.obj _ _ e
        split at q
        · rename_i e
          obtain ⟨u, a1, r1⟩ := r.atI e
          exact .inl ⟨_, _, _, u, rfl, rfl, a.sql, a1, k.same R q r1⟩
        · exact q.elim
      · exact q.elim
    · exact q.elim
  · exact q.elim
abbrev LO_ := En → EH → (Option Int → EH → Prop) → Prop
def aP : Option LT → LO_
  | none => fun _ h P => P none h
  | some t => fun env h P => t env h fun v h1 => match v with
    | .int i => P (some i) h1
    | _ => False
def upO (K : PySem.W.Frag) (t : LO_) : L2.St → Hp → (Option Int → Hp → Prop) → Prop := fun σ H Q => ∃ m env h P, At K env h m σ H ∧ t env h P ∧
  ∀ b h', P b h' → ∀ (m' : Nat → Addr) (H' : Hp), Ex K m h.length H m' h'.length H' → cJ K m' h' H' → Q b H'
def LPo (X : Cx) (e : Option Expr) (t : LO_) : Prop := ∃ u, PO X e u ∧ ∀ σ H Q, upO X.K t σ H Q → u σ H Q
theorem eG {X : Cx} : LPo X none (aP none) := ⟨_, po_none, fun σ H Q ⟨m, env, h, P, at_, t1, k⟩ => k _ _ t1 m H .refl at_.hp⟩
theorem eO {X : Cx} {e : Expr} {t : LT} (he : LE X e t) : LPo X (some e) (aP (some t)) := by
  refine ⟨_, po_some he.pe, fun σ H Q ⟨m, env, h, P, at_, t1, k⟩ => ⟨m, env, h, _, at_, t1, fun v h1 p1 m1 H1 x E1 R1 r1 => ?_⟩⟩
  cases v with
  | int i =>
    rw [az] at r1
    exact ⟨i, r1, k _ _ p1 m1 H1 E1 R1⟩
  | _ => exact p1.elim
def cut {α : Type} (xs : List α) (lo hi : Option Int) : List α := (xs.drop (HT.sIx xs.length 0 lo)).take (HT.sIx xs.length xs.length hi - HT.sIx xs.length 0 lo)
abbrev LSlc := EV → Option Int → Option Int → EH → EK → Prop
def slE : LSlc := fun v lo hi h P => match v with
  | .tup xs => P (.tup (cut xs lo hi)) h
  | .str s => s.length ≤ sizeLine ∧ P (.str (cut s lo hi)) h
  | .ref r => match h[r]? with
    | some (.lst xs) => P (.ref h.length) (h ++ [.lst (cut xs lo hi)])
    | some (.frz xs) => P (.ref h.length) (h ++ [.lst (cut xs lo hi)])
    | _ => False
  | _ => False
def lSl (to : LT) (tl th : LO_) : LT := fun env h P => to env h fun x h1 => tl env h1 fun l h2 => th env h2 fun u h3 => slE x l u h3 P
theorem aC.cut {K : PySem.W.Frag} {m : Nat → Addr} {n : Nat} {H : Hp} {es : List EV} {vs : List V} {lo hi : Option Int} (r : aC K m n H es vs) : aC K m n H (cut es lo hi) (cutV vs lo hi) := by
  unfold Y.cut cutV
  rw [← r.length]
  exact aC.take _ (aC.drop _ r)
theorem cut_S (s : List Nat) (lo hi : Option Int) : cutS (S s) lo hi = S (cut s lo hi) := by
  unfold cutS Y.cut
  rw [S_len]
theorem cut_all {α : Type} {xs : List α} {lo hi : Option Int} (h : HT.sIx xs.length 0 lo = 0 ∧ HT.sIx xs.length xs.length hi = xs.length) : cut xs lo hi = xs := by
  unfold cut
  rw [h.1, h.2]
  simp
theorem eV {X : Cx} {e : Expr} {lo hi : Option Expr} {to : LT} {tl th : LO_} {p2 pos : Pos} (he : LE X e to) (hl : LPo X lo tl) (hu : LPo X hi th) : LE X (.Subscript e (.Slice lo hi none p2) pos) (lSl to tl th) := by
  obtain ⟨u1, h1, s1⟩ := hl
  obtain ⟨u2, h2, s2⟩ := hu
  refine ⟨PE.imp (pe_slice (SlR.or sl_list (SlR.or sl_tupA sl_str)) he.pe h1 h2) fun σ H Q ⟨m, env, h, P, at_, t1, k⟩ => ⟨m, env, h, _, at_, t1, fun v h1 p1 m1 H1 x E1 R1 r1 => s1 _ _ _ ⟨m1, env, h1, _, at_.ex E1 R1, p1, fun l h2 p2 m2 H2 E2 R2 =>
    s2 _ _ _ ⟨m2, env, h2, _, (at_.ex E1 R1).ex E2 R2, p2, fun u h3 p3 m3 H3 E3 R3 => ?_⟩⟩⟩⟩
  have r3 := az.ex (E2.trans E3) _ _ r1
  have k3 := k.ex ((E1.trans E2).trans E3)
  unfold slE at p3
  split at p3
  · rename_i xs
    rw [az] at r3
    obtain ⟨a, vs, rfl, hs, r⟩ := r3
    refine .inr (.inl ⟨a, vs, rfl, SqT.of hs, fun w => ?_, fun _ p hp => k3.tup R3 p3 r.cut hp⟩)
    rw [← r.length] at w
    rw [cut_all w] at p3
    exact k3.same R3 p3 (by rw [az]; exact ⟨a, vs, rfl, hs, r⟩)
  · rw [az] at r3
    subst r3
    exact .inr (.inr ⟨_, rfl, by rw [S_len]; exact p3.1, by rw [cut_S]; exact k3.same R3 p3.2 (by rw [az])⟩)
  · rw [az] at r3
    obtain ⟨_, rfl⟩ := r3
    split at p3
    · rename_i e
      obtain ⟨vs, a, r⟩ := R3.obj _ _ e
      exact .inl ⟨_, _, rfl, SqL.of a, fun p hp => k3.lst R3 p3 r.cut hp⟩
    · rename_i e
      obtain ⟨vs, a, r⟩ := R3.obj _ _ e
      exact .inl ⟨_, _, rfl, a.sql, fun p hp => k3.lst R3 p3 r.cut hp⟩
    · exact p3.elim
  · exact p3.elim
end Y
namespace Y
open PySem PySem.Spec PyProof.Rows L2
def aW : LS := fun D env h => D.nx env h
def aH (t u : LS) : LS := fun D env h => t { D with nx := u D } env h
def dh (t : LT) : LS := fun D env h => t env h fun _ h1 => D.nx env h1
def aM (t : LT) : LS := fun D env h => t env h D.rt
def dX : LS := fun D _ h => D.rt .non h
def bB (c : LTt) (t u : LS) : LS := fun D env h => c env h fun b h1 => if b = true then t D env h1 else u D env h1
section
variable {X : Cx} {st : Stmt} {rest a b : List Stmt} {t u : LS} {e c : Expr} {te : LT} {tc : LTt} {pos : Pos}
theorem bT : LSs X [] aW := ⟨PSs.imp pss_nil fun D σ H ⟨m, env, h, P, at_, t1, k⟩ => k.nx _ _ t1 m H σ .refl at_⟩
theorem aJ (h1 : LSt X st t) (h2 : LSs X rest u) : LSs X (st :: rest) (aH t u) := by
  refine ⟨PSs.imp (pss_cons h1.ps h2.pss) fun D σ H ⟨m, env, h, P, at_, t1, k⟩ => ⟨m, env, h, { P with nx := u P }, at_, t1, ⟨?_, k.rt, k.bk, k.ct⟩⟩⟩
  intro env' h' p m' H' σ' E a
  exact ⟨m', env', h', P, a, p, k.ex E⟩
theorem aK (h1 : LSt X st t) : LSs X [st] t := ⟨pss_one h1.ps⟩
theorem ls_expr (he : LE X e te) (hs : swapsWith e none pos.line X.env = pure false := by rfl) : LSt X (.Expr e pos) (dh te) :=
  ⟨PS.imp (ps_expr he.pe hs) fun D σ H ⟨m, env, h, P, at_, t1, k⟩ => ⟨m, env, h, _, at_, t1, fun v h1 p1 m1 H1 x E1 R1 r1 => k.nx _ _ p1 m1 H1 σ E1 (at_.ex E1 R1)⟩⟩
theorem aZ (he : LE X e te) : LSt X (.Return (some e) pos) (aM te) :=
  ⟨PS.imp (ps_ret he.pe) fun D σ H ⟨m, env, h, P, at_, t1, k⟩ => ⟨m, env, h, _, at_, t1, k.rt⟩⟩
theorem fY (hc : LTe X c tc) (ha : LSs X a t) (hb : LSs X b u) : LSt X (.If c a b pos) (bB tc t u) := by
  refine ⟨PS.imp (ps_if hc.pt ha.pss hb.pss) fun D σ H ⟨m, env, h, P, at_, t1, k⟩ => ⟨m, env, h, _, at_, t1, fun c h1 p1 m1 H1 E1 R1 => ?_⟩⟩
  cases c with
  | true =>
    rw [if_pos rfl] at p1 ⊢
    exact ⟨m1, env, h1, P, at_.ex E1 R1, p1, k.ex E1⟩
  | false =>
    rw [if_neg Bool.false_ne_true] at p1 ⊢
    exact ⟨m1, env, h1, P, at_.ex E1 R1, p1, k.ex E1⟩
def lNever : LS := fun _ _ _ => False
theorem ls_never : LSt X st lNever := ⟨PS.imp ps_never fun D σ H ⟨m, env, h, P, at_, t1, k⟩ => t1⟩
end
inductive Pat where
  | nm (i : Nat)
  | tp (ps : List Pat)
mutual
def Pat.bind (h : EH) : Pat → EV → En → Option En
  | .nm i, v, env => some (env.set i (some v))
  | .tp ps, .tup vs, env => Pat.binds h ps vs env
  | .tp ps, .ref r, env => match h[r]? with
    | some (.lst vs) => Pat.binds h ps vs env
    | _ => none
  | .tp _, _, _ => none
def Pat.binds (h : EH) : List Pat → List EV → En → Option En
  | [], [], env => some env
  | p :: ps, v :: vs, env => match Pat.bind h p v env with
    | some e => Pat.binds h ps vs e
    | none => none
  | _, _, _ => none
end
def gSq (K : PySem.W.Frag) (n : Nat) (t : TGs) : TG := fun v σ H Q => gTup K n t v σ H Q ∨ gLst K n t v σ H Q
theorem pg_sq {X : Cx} {es : List Expr} {k : Nat} {t : TGs} {n : Nat} {pos : Pos} (hc : X.calm = true) (h : PGs X es t)
    (hn : (assignEach es X.env).length = n := by rfl) (hst : (assignEach es X.env).findIdx? (·.1) = none := by rfl) : PG X (.Tuple es k pos) (gSq X.K n t) :=
  ⟨fun pins s σ H v u Q I r hw => hw.elim (fun w => (pg_tup (k := k) (pos := pos) hc h hn hst).run pins s σ H v u Q I r w) fun w => (pg_lst (k := k) (pos := pos) hc h hn hst).run pins s σ H v u Q I r w⟩
mutual
def gP (K : PySem.W.Frag) : Pat → TG
  | .nm i => gName i
  | .tp ps => gSq K ps.length (gPs K ps)
def gPs (K : PySem.W.Frag) : List Pat → TGs
  | [] => gNil
  | p :: ps => gCons (gP K p) (gPs K ps)
end
mutual
def Pat.slots : Pat → List Nat
  | .nm i => [i]
  | .tp ps => Pat.slotsAll ps
def Pat.slotsAll : List Pat → List Nat
  | [] => []
  | p :: ps => Pat.slots p ++ Pat.slotsAll ps
end
section
variable {K : PySem.W.Frag} {m : Nat → Addr} {n : Nat} {H : Hp} {h : EH}
theorem RelN.set {env : En} {σ : L2.St} {v : EV} {x : V} (R : RelN K m n H env σ) (r : az K m n H v x) (i : Nat) : RelN K m n H (env.set i (some v)) (σ.set i (some x)) := by
  refine ⟨by simpa using R.1, fun j w hj => ?_⟩
  by_cases e : i = j
  · subst e
    have hl : i < env.length := by
      have := (List.getElem?_eq_some_iff.mp hj).1
      simpa using this
    rw [List.getElem?_set_self hl] at hj
    cases hj
    exact ⟨x, List.getElem?_set_self (by rw [← R.1]; exact hl), r⟩
  · rw [List.getElem?_set_ne e] at hj
    obtain ⟨y, a, b⟩ := R.2 j w hj
    exact ⟨y, by rw [List.getElem?_set_ne e]; exact a, b⟩
mutual
theorem Pat.sim (RH : cJ K m h H) : ∀ (p : Pat) (v : EV) (x : V) (env env' : En) (σ : L2.St), RelN K m h.length H env σ → az K m h.length H v x → Pat.bind h p v env = some env' →
    ∃ σ', (∀ Q, Q σ' H → gP K p x σ H Q) ∧ RelN K m h.length H env' σ' ∧ (∀ i, i ∉ Pat.slots p → σ'[i]? = σ[i]?) ∧ σ'.length = σ.length
  | .nm i, v, x, env, env', σ, R, r, e => by
    rw [Pat.bind] at e
    cases e
    refine ⟨σ.set i (some x), fun Q q => by rw [gP]; exact q, R.set r i, fun j hj => ?_, by simp⟩
    rw [Pat.slots] at hj
    exact List.getElem?_set_ne (fun z => hj (by simp [z]))
  | .tp ps, .tup vs, x, env, env', σ, R, r, e => by
    rw [Pat.bind] at e
    rw [az] at r
    obtain ⟨a, xs, rfl, hs, r⟩ := r
    obtain ⟨σ', f, R', s, l, z⟩ := Pat.sims RH ps vs xs env env' σ R r e
    refine ⟨σ', fun Q q => ?_, R', fun j hj => s j (by rw [Pat.slots] at hj; exact hj), z⟩
    rw [gP]
    exact .inl ⟨a, xs, rfl, SqT.of hs, l, f Q q⟩
  | .tp ps, .non, x, env, env', σ, R, r, e => by simp [Pat.bind] at e
  | .tp ps, .ktup _, x, env, env', σ, R, r, e => by simp [Pat.bind] at e
  | .tp ps, .bl _, x, env, env', σ, R, r, e => by simp [Pat.bind] at e
  | .tp ps, .int _, x, env, env', σ, R, r, e => by simp [Pat.bind] at e
  | .tp ps, .str _, x, env, env', σ, R, r, e => by simp [Pat.bind] at e
  | .tp ps, .ref q, x, env, env', σ, R, r, e => by
    rw [Pat.bind] at e
    rw [az] at r
    obtain ⟨_, rfl⟩ := r
    split at e
    · rename_i vs e1
      obtain ⟨xs, a, r2⟩ := RH.obj _ _ e1
      obtain ⟨σ', f, R', s, l, z⟩ := Pat.sims RH ps vs xs env env' σ R r2 e
      refine ⟨σ', fun Q q => ?_, R', fun j hj => s j (by rw [Pat.slots] at hj; exact hj), z⟩
      rw [gP]
      exact .inr ⟨_, xs, rfl, SqL.of a, l, f Q q⟩
    · cases e
  | .tp ps, .adr _, x, env, env', σ, R, r, e => by simp [Pat.bind] at e
  | .tp ps, .ty _, x, env, env', σ, R, r, e => by simp [Pat.bind] at e
theorem Pat.sims (RH : cJ K m h H) : ∀ (ps : List Pat) (vs : List EV) (xs : List V) (env env' : En) (σ : L2.St), RelN K m h.length H env σ → aC K m h.length H vs xs → Pat.binds h ps vs env = some env' →
    ∃ σ', (∀ Q, Q σ' H → gPs K ps xs σ H Q) ∧ RelN K m h.length H env' σ' ∧ (∀ i, i ∉ Pat.slotsAll ps → σ'[i]? = σ[i]?) ∧ xs.length = ps.length ∧ σ'.length = σ.length
  | [], [], xs, env, env', σ, R, r, e => by
    rw [Pat.binds] at e
    cases e
    rw [aC] at r
    subst r
    exact ⟨σ, fun Q q => by rw [gPs]; exact ⟨rfl, q⟩, R, fun _ _ => rfl, rfl, rfl⟩
  | [], _ :: _, xs, env, env', σ, R, r, e => by simp [Pat.binds] at e
  | _ :: _, [], xs, env, env', σ, R, r, e => by simp [Pat.binds] at e
  | p :: ps, v :: vs, xs, env, env', σ, R, r, e => by
    rw [Pat.binds] at e
    rw [aC] at r
    obtain ⟨x, l, rfl, r1, r2⟩ := r
    split at e
    · rename_i env1 e1
      obtain ⟨σ1, f1, R1, s1, z1⟩ := Pat.sim RH p v x env env1 σ R r1 e1
      obtain ⟨σ2, f2, R2, s2, l2, z2⟩ := Pat.sims RH ps vs l env1 env' σ1 R1 r2 e
      refine ⟨σ2, fun Q q => ?_, R2, fun j hj => ?_, by simp [l2], z2.trans z1⟩
      · rw [gPs]
        exact ⟨x, l, rfl, f1 _ (f2 Q q)⟩
      · rw [Pat.slotsAll] at hj
        rw [s2 j (fun z => hj (List.mem_append_right _ z)), s1 j (fun z => hj (List.mem_append_left _ z))]
    · cases e
end
end
structure LG (X : Cx) (tg : Expr) (p : Pat) : Prop where
  pg : PG X tg (gP X.K p)
structure LGs (X : Cx) (ts : List Expr) (ps : List Pat) : Prop where
  pgs : PGs X ts (gPs X.K ps)
section
variable {X : Cx} {pos : Pos}
theorem dB (i : Nat) {x : Str} (hN : X.N.Nodup) (hi : X.N[i]? = some x := by rfl) (hx : Loc X.env.scope x := by first | exact Or.inl rfl | exact Or.inr rfl) (hf : X.fn x = true ∨ X.env.scope.names.lookup x = some .local := by first | exact .inl rfl | exact .inr rfl) : LG X (.Name x pos) (.nm i) :=
  ⟨by rw [gP]; exact pg_name hN hi hx hf⟩
theorem lgs_nil : LGs X [] [] := ⟨by rw [gPs]; exact pgs_nil⟩
theorem lgs_cons {e : Expr} {es : List Expr} {p : Pat} {ps : List Pat} (h1 : LG X e p) (h2 : LGs X es ps) (hs : (assignEach (e :: es) X.env).map (·.2) = assign e X.env :: (assignEach es X.env).map (·.2) := by rfl) : LGs X (e :: es) (p :: ps) :=
  ⟨by rw [gPs]; exact pgs_cons h1.pg h2.pgs hs⟩
theorem lg_tup {es : List Expr} {k : Nat} {ps : List Pat} (hc : X.calm = true) (h : LGs X es ps) (hn : (assignEach es X.env).length = ps.length := by rfl) (hst : (assignEach es X.env).findIdx? (·.1) = none := by rfl) : LG X (.Tuple es k pos) (.tp ps) :=
  ⟨by rw [gP]; exact pg_sq hc h.pgs hn hst⟩
end
def ie (h : EH) (p : Pat) (v : EV) (env : En) (P : En → Prop) : Prop := match Pat.bind h p v env with
  | some e => P e
  | none => False
theorem bind_sim {K : PySem.W.Frag} {m : Nat → Addr} {h : EH} {H : Hp} {p : Pat} {v : EV} {x : V} {env : En} {σ : L2.St} {P : En → Prop} (RH : cJ K m h H) (R : RelN K m h.length H env σ) (r : az K m h.length H v x) (q : ie h p v env P) :
    ∃ env' σ', P env' ∧ (∀ Q, Q σ' H → gP K p x σ H Q) ∧ RelN K m h.length H env' σ' ∧ (∀ i, i ∉ Pat.slots p → σ'[i]? = σ[i]?) ∧ σ'.length = σ.length := by
  unfold ie at q
  split at q
  · rename_i env' e
    obtain ⟨σ', f, R', s⟩ := Pat.sim RH p v x env env' σ R r e
    exact ⟨env', σ', q, f, R', s⟩
  · exact q.elim
def jN (te : LT) (p : Pat) : LS := fun D env h => te env h fun v h1 => ie h1 p v env fun env' => D.nx env' h1
def bA (te : LT) (i : Nat) : LS := fun D env h => te env h fun v h1 => D.nx (env.set i (some v)) h1
section
variable {X : Cx} {pos : Pos}
theorem eQ (i : Nat) {x : Str} {e : Expr} {te : LT} {pos' : Pos} (hN : X.N.Nodup) (he : LE X e te) (hi : X.N[i]? = some x := by rfl) (hx : Loc X.env.scope x := by first | exact Or.inl rfl | exact Or.inr rfl) (hs : swapsWith e (some (.Name x pos')) pos.line X.env = pure false := by rfl)
    (hf : X.fn x = true ∨ X.env.scope.names.lookup x = some .local := by first | exact .inl rfl | exact .inr rfl) : LSt X (.Assign [.Name x pos'] e pos) (bA te i) :=
  ⟨PS.imp (ps_set hN hi hx he.pe hs hf) fun D σ H ⟨m, env, h, P, at_, t1, k⟩ => ⟨m, env, h, _, at_, t1, fun v h1 p1 m1 H1 x E1 R1 r1 => k.nx _ _ p1 m1 H1 _ E1 ⟨R1, (at_.nm.ex E1).set r1 i⟩⟩⟩
def gq (i j : Nat) (ta : LA) : LS := fun D env h => ta env h fun vs h1 => match vs with
  | [v, w] => D.nx ((env.set i (some v)).set j (some w)) h1
  | _ => False
theorem ls_par (i j : Nat) {x y : Str} {a b : Expr} {ta : LA} {px py pt : Pos} {kt k2 pt2} (hc : X.calm = true) (hN : X.N.Nodup) (ha : LAs X [a, b] ta) (hi : X.N[i]? = some x := by rfl) (hj : X.N[j]? = some y := by rfl) (hij : i ≠ j := by decide)
    (hx : X.env.scope.names.lookup x = some .local := by rfl) (hy : X.env.scope.names.lookup y = some .local := by rfl)
    (hw : swappedStores [.Tuple [.Name x px, .Name y py] kt pt] (.Tuple [a, b] k2 pt2) X.env = pure (some [x, y]) := by rfl)
    (hs : swapsWithSole [.Tuple [.Name x px, .Name y py] kt pt] (.Tuple [a, b] k2 pt2) pos.line X.env = pure false := by rfl) :
    LSt X (.Assign [.Tuple [.Name x px, .Name y py] kt pt] (.Tuple [a, b] k2 pt2) pos) (gq i j ta) := by
  refine ⟨PS.imp (ps_par hc hN hi hj hij hx hy ha.pa hw hs) fun D σ H ⟨m, env, h, P, at_, t1, k⟩ => ⟨m, env, h, _, at_, t1, fun vs h1 p1 m1 H1 xs E1 R1 r1 => ?_⟩⟩
  split at p1
  · obtain ⟨v, w, rfl, a, b⟩ := r1.two_inv
    exact ⟨v, w, rfl, k.nx _ _ p1 m1 H1 _ E1 ⟨R1, ((at_.nm.ex E1).set a i).set b j⟩⟩
  · exact p1.elim
def setE (o i v : EV) (h : EH) (P : EH → Prop) : Prop := match o, i with
  | .ref r, .int k => match h[r]? with
    | some (.lst xs) => match ixN xs.length k with
      | some j => P (h.set r (.lst (xs.set j v)))
      | none => False
    | _ => False
  | _, _ => False
theorem set_sim {K : PySem.W.Frag} {m : Nat → Addr} {h : EH} {H : Hp} {o i v : EV} {x y z : V} {P : EH → Prop} {Q : Hp → Prop} (R : cJ K m h H) (rx : az K m h.length H o x) (ry : az K m h.length H i y) (rz : az K m h.length H v z) (q : setE o i v h P)
    (k : ∀ h', P h' → ∀ H', Ex K m h.length H m h'.length H' → cJ K m h' H' → Q H') : rSetL x y z H Q := by
  unfold setE at q
  split at q
  · rw [az] at rx
    rw [az] at ry
    obtain ⟨_, rfl⟩ := rx
    subst ry
    split at q
    · rename_i ls e
      obtain ⟨vs, a, r⟩ := R.obj _ _ e
      split at q
      · rename_i j ej
        refine ⟨_, vs, _, j, rfl, rfl, a, by rw [← r.length]; exact ej, ?_⟩
        have E := Ex.write (o := .lst (vs.set j z)) (e' := EO.lst (List.set ls j v)) R e
        exact k _ q _ E (R.write e ⟨_, upd_same, aC.set (az.ex E _ _ rz) j (aC.ex E _ _ r)⟩)
      · exact q.elim
    · exact q.elim
  · exact q.elim
def dW (to ti te : LT) : LS := fun D env h => te env h fun v h1 => to env h1 fun o h2 => ti env h2 fun i h3 => setE o i v h3 fun h4 => D.nx env h4
def getE (v w : EV) (h : EH) (P : EV → Prop) : Prop := match v, w with
  | .ref r, .int i => match h[r]? with
    | some (.lst xs) => 0 ≤ i ∧ match xs[i.toNat]? with
      | some x => P x
      | none => False
    | _ => False
  | _, _ => False
def dC (f : Int → Int → Int) (to ti te : LT) : LS := fun D env h => to env h fun o h1 => ti env h1 fun i h2 => getE o i h2 fun x => te env h2 fun y h4 => match x, y with
  | .int a, .int b => setE o i (.int (f a b)) h4 fun h5 => D.nx env h5
  | _, _ => False
def rGetN (K : PySem.W.Frag) : R2 := fun o i H Q => ∃ (p : Addr) (xs : List V) (k : Int) (x : V), o = .ref p ∧ i = .int k ∧ SqL K H p xs ∧ 0 ≤ k ∧ xs[k.toNat]? = some x ∧ Q x H
theorem pget_list : PGet X (rGetN X.K) := by
  intro pins s σ H o i ov iv Q I ro ri q
  obtain ⟨p, xs, k, x, rfl, rfl, hq, h0, hx, q⟩ := q
  cases ro
  obtain ⟨t, rfl⟩ := ri
  obtain ⟨its, rv, pl, hz⟩ := I.list hq
  obtain ⟨u, hu, ru⟩ := rv.get hx
  have hlt := (List.getElem?_eq_some_iff.mp hx).1
  have hs : sizeLine = 16777216 := by decide
  exact wpAny_getItem_list pl.isList h0 (by omega) (by simpa using hu) ⟨x, H, I, ru, q⟩
theorem ls_augS {o i e : Expr} {to ti te : LT} {op : Operator} {f : Int → Int → Int} {tpos : Pos} (hp : PIp X op (ipI f)) (ho : LE X o to) (hi : LE X i ti) (he : LE X e te)
    (ha : ∀ ov iv new, augStore i ov iv new = (do holding [new, ov, iv] (setItem ov iv new); release [new, ov, iv] []; pure .next) := by intros; rfl) : LSt X (.AugAssign (.Subscript o i tpos) op e pos) (dC f to ti te) := by
  refine ⟨PS.imp (ps_augS ho.pe hi.pe pget_list he.pe hp set_list ha) fun D σ H ⟨m, env, h, P, at_, t1, k⟩ => ⟨m, env, h, _, at_, t1, fun o h1 p1 m1 H1 x E1 R1 r1 => ⟨m1, env, h1, _, at_.ex E1 R1, p1, fun i h2 p2 m2 H2 y E2 R2 r2 => ?_⟩⟩⟩
  have ro2 := az.ex E2 _ _ r1
  unfold getE at p2
  split at p2
  · have ro := ro2
    have ri := r2
    rw [az] at ro
    rw [az] at ri
    obtain ⟨_, e1⟩ := ro
    split at p2
    · rename_i ls e
      obtain ⟨vs, a, r⟩ := R2.obj _ _ e
      obtain ⟨h0, p2⟩ := p2
      split at p2
      · rename_i w ew
        obtain ⟨u, hu, ru⟩ := r.at ew
        refine ⟨_, vs, _, u, e1, ri, SqL.of a, h0, hu, m2, env, h2, _, (at_.ex E1 R1).ex E2 R2, p2, fun v h3 p3 m3 H3 z E3 R3 r3 => ?_⟩
        have ru3 := az.ex E3 _ _ ru
        split at p3
        · rw [az] at ru3
          rw [az] at r3
          refine ⟨_, _, ru3, r3, ?_⟩
          exact set_sim R3 (az.ex E3 _ _ ro2) (az.ex E3 _ _ r2) (by rw [az]) p3 fun h4 p4 H4 E4 R4 => k.nx _ _ p4 m3 H4 σ (((E1.trans E2).trans E3).trans E4) ((((at_.ex E1 R1).ex E2 R2).ex E3 R3).ex E4 R4)
        · exact p3.elim
      · exact p2.elim
    · exact p2.elim
  · exact p2.elim
end
abbrev LI := En → EH → ((EH → Prop) → List EV → EH → Prop) → Prop
def SimIt (K : PySem.W.Frag) (m : Nat → Addr) (n : Nat) (H : Hp) (J : It) (g : EH → Prop) (xs : List EV) : Prop :=
  ∀ (i : Nat) (h' : EH) (m' : Nat → Addr) (H' : Hp), Ex K m n H m' h'.length H' → cJ K m' h' H' → g h' →
    (∀ x, xs[i]? = some x → J.go i H' ∧ ∀ v H2, J.yld i H' v H2 → Ex K m' h'.length H' m' h'.length H2 ∧ cJ K m' h' H2 ∧ az K m' h'.length H2 x v) ∧ (xs.length = i → J.stop i H')
def upI (K : PySem.W.Frag) (t : LI) : TI := fun σ H R => ∃ m env h P, At K env h m σ H ∧ t env h P ∧
  ∀ g xs h', P g xs h' → ∀ (m' : Nat → Addr) (H' : Hp) (J : It), Ex K m h.length H m' h'.length H' → cJ K m' h' H' → SimIt K m' h'.length H' J g xs → R J H'
structure LIt (X : Cx) (tg iter : Expr) (t : LI) : Prop where
  pi : PI X tg iter (upI X.K t)
def lTrue : EH → Prop := fun _ => True
def loopE (g : EH → Prop) (p : Pat) (tb : LS) (D : LEnds) : List EV → En → EH → Prop
  | [], env, h => g h ∧ D.nx env h
  | x :: xs, env, h => g h ∧ ie h p x env fun env2 => tb { D with nx := loopE g p tb D xs, ct := loopE g p tb D xs, bk := D.nx } env2 h
def gj (ti : LI) (p : Pat) (tb : LS) : LS := fun D env h => ti env h fun g xs h1 => loopE g p tb D xs env h1
section
variable {X : Cx} {pos : Pos}
theorem ls_for {tg iter : Expr} {body : List Stmt} {ti : LI} {p : Pat} {tb : LS} (hp : PassesOwn (model X.prog X.w) X.A X.env X.xe) (hc : X.calm = true) (hi : LIt X tg iter ti) (hg : LG X tg p) (hb : LSs X body tb)
    (hs : ∀ x, foldedSetIterable iter X.env x = pure x := by intro _; rfl) : LSt X (.For tg iter body [] pos) (gj ti p tb) := by
  refine ⟨PS.imp (ps_for hp hc hi.pi hg.pg hb.pss hs) fun D σ H ⟨m, env, h, P, at_, t1, k⟩ => ⟨m, env, h, _, at_, t1, fun g xs h1 p1 m1 H1 J E1 R1 sim => ?_⟩⟩
  refine ⟨fun i c σ' H' => c = xs.length - i ∧ i ≤ xs.length ∧ ∃ m2 env2 h2, Ex X.K m1 h1.length H1 m2 h2.length H' ∧ At X.K env2 h2 m2 σ' H' ∧ loopE g p tb P (xs.drop i) env2 h2, ⟨xs.length, by simp, Nat.zero_le _, m1, env, h1, .refl, at_.ex E1 R1, by simpa using p1⟩, ?_⟩
  rintro i c σ' H' ⟨rfl, hi, m2, env2, h2, E2, a2, q⟩
  by_cases hlt : i < xs.length
  · have ed : xs.drop i = xs[i] :: xs.drop (i + 1) := List.drop_eq_getElem_cons hlt
    rw [ed, loopE] at q
    obtain ⟨qg, q⟩ := q
    obtain ⟨s1, s2⟩ := sim i h2 m2 H' E2 a2.hp qg
    obtain ⟨go, yl⟩ := s1 xs[i] (List.getElem?_eq_getElem hlt)
    refine .inr ⟨go, fun σ3 H3 => ∃ m3 env3 h3, Ex X.K m1 h1.length H1 m3 h3.length H3 ∧ At X.K env3 h3 m3 σ3 H3 ∧ loopE g p tb P (xs.drop (i + 1)) env3 h3, fun σ3 H3 ⟨m3, env3, h3, E3, a3, q3⟩ => ⟨xs.length - (i + 1), by omega, rfl, hlt, m3, env3, h3, E3, a3, q3⟩, fun v H3 y => ?_⟩
    obtain ⟨E3, R3, r3⟩ := yl v H3 y
    obtain ⟨env4, σ4, q4, f, R4, _, _⟩ := bind_sim R3 (a2.nm.ex E3) r3 q
    refine f _ ⟨m2, env4, h2, _, ⟨R3, R4⟩, q4, ?_⟩
    have E13 := E2.trans E3
    have k13 := k.ex (E1.trans E13)
    exact ⟨fun e5 h5 p5 m5 H5 σ5 E5 a5 => ⟨m5, e5, h5, E13.trans E5, a5, p5⟩, k13.rt, k13.nx, fun e5 h5 p5 m5 H5 σ5 E5 a5 => ⟨m5, e5, h5, E13.trans E5, a5, p5⟩⟩
  · have e : i = xs.length := by omega
    subst e
    rw [List.drop_length, loopE] at q
    obtain ⟨_, s2⟩ := sim xs.length h2 m2 H' E2 a2.hp q.1
    exact .inl ⟨s2 rfl, k.nx _ _ q.2 m2 H' σ' (E1.trans E2) a2⟩
def lIt (t : LT) : LI := fun env h P => t env h fun v h1 => match v with
  | .ref r => match h1[r]? with
    | some (.lst xs) => P (fun h' => h'[r]? = some (.lst xs)) xs h1
    | some (.frz xs) => P (fun h' => h'[r]? = some (.frz xs)) xs h1
    | _ => False
  | .tup xs => P lTrue xs h1
  | .ktup xs => P lTrue xs h1
  | .str s => P lTrue (s.map fun c => .str [c]) h1
  | _ => False
def iAny (K : PySem.W.Frag) (te : TE) : TI := fun σ H R => te σ H fun x H1 => (∃ a, x = .ref a ∧ (∃ xs, SqL K H1 a xs) ∧ R (Itl K a) H1) ∨ (∃ a, x = .ref a ∧ (∃ xs, SqT K H1 a xs) ∧ R (Itt K a) H1) ∨ ∃ z, x = .str z ∧ R (Its z) H1
theorem pi_any {tg e : Expr} {te : TE} (he : PE X e te) : PI X tg e (iAny X.K te) := by
  refine ⟨fun pins s σ H R I h => thn (he.run pins s σ H _ I h) fun v s1 ⟨x, H1, I1, r1, q⟩ => ?_⟩
  rcases q with ⟨a, rfl, ⟨xs, hq⟩, q⟩ | ⟨a, rfl, ⟨xs, hq⟩, q⟩ | ⟨z, rfl, q⟩
  · cases r1
    obtain ⟨its, rv, p, hz⟩ := I1.list hq
    exact wpAny_pyIter_list p.isList (pi_one (tk := s1.toks) I1 _ (turn_list a _) ⟨_, Heap.get?_push_size _ rfl, rfl, rfl⟩ q)
  · cases r1
    obtain ⟨its, rv, p, hz⟩ := I1.tuple hq
    exact wpAny_pyIter_tuple (show s1.heap.IsTuple a its.toArray from p) (pi_one (tk := s1.toks) I1 _ (turn_tuple a _) ⟨_, Heap.get?_push_size _ rfl, rfl, rfl⟩ q)
  · obtain ⟨t, rfl⟩ := r1
    cases ha : z.cps.all (· < 128)
    · exact wpAny_pyIter_wide ha (pi_one (tk := s1.toks) I1 _ (turn_str _ z t "str_iterator" (.inr rfl)) ⟨_, Heap.get?_push_size _ rfl, rfl, rfl⟩ q)
    · exact wpAny_pyIter_ascii ha (pi_one (tk := s1.toks) I1 _ (turn_str _ z t "str_ascii_iterator" (.inl rfl)) ⟨_, Heap.get?_push_size _ rfl, rfl, rfl⟩ q)
theorem SimIt.lst {K : PySem.W.Frag} {m : Nat → Addr} {n r : Nat} {H : Hp} {xs : List EV} {g : EH → Prop} (hr : r < n)
    (hh : ∀ h' m' H', Ex K m n H m' h'.length H' → cJ K m' h' H' → g h' → ∃ us, SqL K H' (m' r) us ∧ aC K m' h'.length H' xs us) : SimIt K m n H (Itl K (m r)) g xs := by
  intro i h' m' H' E' R' gh
  obtain ⟨us, s1, r1⟩ := hh h' m' H' E' R' gh
  rw [E'.eq r hr] at s1
  refine ⟨fun x hx => ?_, fun hi => ⟨us, s1, by rw [← r1.length]; exact Nat.le_of_eq hi⟩⟩
  obtain ⟨u, hu, ru⟩ := r1.at hx
  refine ⟨⟨us, u, s1, hu⟩, fun v H2 ⟨e, y⟩ => ?_⟩
  subst e
  have := y us s1
  rw [hu] at this
  cases this
  exact ⟨.refl, R', ru⟩
theorem iH {tg e : Expr} {t : LT} (he : LE X e t) : LIt X tg e (lIt t) := by
  refine ⟨PI.imp (pi_any he.pe) fun σ H R ⟨m, env, h, P, at_, t1, k⟩ => ⟨m, env, h, _, at_, t1, fun v h1 p1 m1 H1 x E1 R1 r1 => ?_⟩⟩
  split at p1
  · rename_i r
    rw [az] at r1
    obtain ⟨hr, rfl⟩ := r1
    split at p1
    · rename_i xs e
      obtain ⟨vs, a, r2⟩ := R1.obj _ _ e
      refine .inl ⟨_, rfl, ⟨vs, SqL.of a⟩, k _ xs h1 p1 m1 H1 _ E1 R1 (SimIt.lst hr fun h' m' H' E' R' gh => ?_)⟩
      obtain ⟨us, a', r'⟩ := R'.obj _ _ gh
      exact ⟨us, SqL.of a', r'⟩
    · rename_i xs e
      obtain ⟨vs, a, r2⟩ := R1.obj _ _ e
      refine .inl ⟨_, rfl, ⟨vs, a.sql⟩, k _ xs h1 p1 m1 H1 _ E1 R1 (SimIt.lst hr fun h' m' H' E' R' gh => ?_)⟩
      obtain ⟨us, a', r'⟩ := R'.obj _ _ gh
      exact ⟨us, a'.sql, r'⟩
    · exact p1.elim
  · rename_i xs
    rw [az] at r1
    obtain ⟨a, vs, rfl, hs, r2⟩ := r1
    refine .inr (.inl ⟨_, rfl, ⟨vs, SqT.of hs⟩, k _ xs h1 p1 m1 H1 _ E1 R1 fun i h' m' H' E' R' _ => ?_⟩)
    have hs' := E'.tup _ _ (SqT.of hs)
    have r' := aC.ex E' _ _ r2
    refine ⟨fun x hx => ?_, fun hi => ⟨vs, hs', by rw [← r'.length]; exact Nat.le_of_eq hi⟩⟩
    obtain ⟨u, hu, ru⟩ := r'.at hx
    refine ⟨⟨vs, u, hs', hu⟩, fun v H2 ⟨e, y⟩ => ?_⟩
    subst e
    have := y vs hs'
    rw [hu] at this
    cases this
    exact ⟨.refl, R', ru⟩
  · rename_i xs
    rw [az] at r1
    obtain ⟨a, vs, rfl, hs, r2⟩ := r1
    refine .inr (.inl ⟨_, rfl, ⟨vs, hs⟩, k _ xs h1 p1 m1 H1 _ E1 R1 fun i h' m' H' E' R' _ => ?_⟩)
    have hs' := E'.tup _ _ hs
    have r' := aC.ex E' _ _ r2
    refine ⟨fun x hx => ?_, fun hi => ⟨vs, hs', by rw [← r'.length]; exact Nat.le_of_eq hi⟩⟩
    obtain ⟨u, hu, ru⟩ := r'.at hx
    refine ⟨⟨vs, u, hs', hu⟩, fun v H2 ⟨e, y⟩ => ?_⟩
    subst e
    have := y vs hs'
    rw [hu] at this
    cases this
    exact ⟨.refl, R', ru⟩
  · rename_i s
    rw [az] at r1
    subst r1
    refine .inr (.inr ⟨_, rfl, k _ _ h1 p1 m1 H1 _ E1 R1 fun i h' m' H' E' R' _ => ?_⟩)
    refine ⟨fun x hx => ?_, fun hi => ?_⟩
    · rw [List.getElem?_map] at hx
      obtain ⟨c, hc, rfl⟩ := Option.map_eq_some_iff.mp hx
      have hl := (List.getElem?_eq_some_iff.mp hc).1
      refine ⟨by show i < s.toArray.size; simpa using hl, fun v H2 ⟨e, c', hc', y⟩ => ?_⟩
      subst e y
      have e2 : s[i]? = some c' := by simpa using hc'
      rw [hc] at e2
      cases e2
      exact ⟨.refl, R', by rw [az]⟩
    · show s.toArray.size ≤ i
      simpa using Nat.le_of_eq hi
  · exact p1.elim
def j5 (lo : Int) (n : Nat) : List EV := (List.range n).map fun (i : Nat) => EV.int (lo + i)
def bV (ta : LA) : LI := fun env h P => ta env h fun vs h1 => match vs with
  | [.int j] => (-(2 ^ 62) ≤ j ∧ j < 2 ^ 62) ∧ P lTrue (j5 0 j.toNat) h1
  | _ => False
def dU (ta : LA) : LI := fun env h P => ta env h fun vs h1 => match vs with
  | [.int i, .int j] => (-(2 ^ 62) ≤ i ∧ i < 2 ^ 62 ∧ -(2 ^ 62) ≤ j ∧ j < 2 ^ 62) ∧ P lTrue (j5 i (j - i).toNat) h1
  | _ => False
theorem SimIt.rng {K : PySem.W.Frag} {m : Nat → Addr} {n : Nat} {H : Hp} {lo : Int} {k : Nat} {g : EH → Prop} : SimIt K m n H (Itr lo k) g (j5 lo k) := by
  intro i h' m' H' E' R' gh
  unfold j5
  refine ⟨fun x hx => ?_, fun hi => by show k ≤ i; simpa using Nat.le_of_eq hi⟩
  rw [List.getElem?_map] at hx
  obtain ⟨j, hj, rfl⟩ := Option.map_eq_some_iff.mp hx
  obtain ⟨hl, e⟩ := List.getElem?_eq_some_iff.mp hj
  rw [List.length_range] at hl
  rw [List.getElem_range] at e
  subst e
  refine ⟨hl, fun v H2 ⟨e1, e2⟩ => ?_⟩
  subst e1 e2
  exact ⟨.refl, R', by rw [az]⟩
theorem oW {tg a : Expr} {ta : LA} {p pos : Pos} (hg : Gl X "range") (hm : X.mg "range" = none) (ha : LAs X [a] ta) (hs : starEach [a] X.env = [(false, eval a X.env)] := by rfl) : LIt X tg (.Call (.Name "range" p) [a] [] pos) (bV ta) := by
  refine ⟨PI.imp (pi_range1 hg hm ha.pa hs) fun σ H R ⟨m, env, h, P, at_, t1, k⟩ => ⟨m, env, h, _, at_, t1, fun vs h1 p1 m1 H1 xs E1 R1 r1 => ?_⟩⟩
  split at p1
  · obtain ⟨v, rfl, r2⟩ := r1.one_inv
    rw [az] at r2
    subst r2
    exact ⟨_, rfl, p1.1.1, p1.1.2, k _ _ h1 p1.2 m1 H1 _ E1 R1 SimIt.rng⟩
  · exact p1.elim
def bJ (env : En) : List Nat → En
  | [] => env
  | v :: vs => (bJ env vs).set v none
theorem RelN.wipe {K : PySem.W.Frag} {m : Nat → Addr} {n : Nat} {H : Hp} {env : En} {σ : L2.St} (R : RelN K m n H env σ) : ∀ vs, RelN K m n H (bJ env vs) (wipe σ vs)
  | [] => R
  | v :: vs => by
    have r := RelN.wipe R vs
    unfold bJ L2.wipe
    refine ⟨by simpa using r.1, fun j w hj => ?_⟩
    by_cases e : v = j
    · subst e
      have hl : v < (bJ env vs).length := by
        have := (List.getElem?_eq_some_iff.mp hj).1
        simpa using this
      rw [List.getElem?_set_self hl] at hj
      cases hj
    · rw [List.getElem?_set_ne e] at hj ⊢
      exact r.2 j w hj
theorem wipe_at (σ : L2.St) : ∀ (vs : List Nat) (i : Nat), (wipe σ vs)[i]? = if i ∈ vs then (σ[i]?).map (fun _ => none) else σ[i]?
  | [], i => by simp [L2.wipe]
  | v :: vs, i => by
    unfold L2.wipe
    rw [List.getElem?_set, wipe_at σ vs i, wipe_length]
    by_cases e : v = i
    · subst e
      by_cases hl : v < σ.length
      · simp [hl]
      · simp [hl]
    · have : ¬ i = v := fun z => e z.symm
      simp [e, this]
theorem wipe_back {σ σ' : L2.St} {vs ss : List Nat} (h : ∀ i, i ∉ ss → σ'[i]? = (wipe σ vs)[i]?) (hs : ∀ i ∈ ss, i ∈ vs) (hl : σ'.length = σ.length) : wipe σ' vs = wipe σ vs := by
  refine List.ext_getElem? fun i => ?_
  rw [wipe_at, wipe_at]
  by_cases hv : i ∈ vs
  · rw [if_pos hv, if_pos hv]
    by_cases hi : i < σ.length
    · rw [List.getElem?_eq_getElem hi, List.getElem?_eq_getElem (by omega)]; rfl
    · rw [List.getElem?_eq_none (by omega), List.getElem?_eq_none (by omega)]
  · rw [if_neg hv, if_neg hv, h i fun z => hv (hs i z), wipe_at, if_neg hv]
structure LTs (X : Cx) (ifs : List Expr) (t : LTt) : Prop where
  pts : PTs X ifs (upT X.K t)
def mY : LTt := fun _ h P => P true h
theorem PTs.imp {e : List Expr} {t t' : TT} (h : PTs X e t) (i : ∀ σ H Q, t' σ H Q → t σ H Q) : PTs X e t' := ⟨fun pins s σ H Q I q => h.run pins s σ H Q I (i σ H Q q)⟩
theorem mK : LTs X [] mY := ⟨PTs.imp pts_nil fun σ H Q ⟨m, env, h, P, at_, t1, k⟩ => k _ _ t1 m H .refl at_.hp⟩
theorem lts_one {c : Expr} {t : LTt} (h : LTe X c t) : LTs X [c] t := ⟨pts_one h.pt⟩
def lcE (g : EH → Prop) (p : Pat) (tt : LTt) (te : LT) (d : Nat) (env : En) (P : EK) : List EV → EH → Prop
  | [], h => g h ∧ P (.ref d) h
  | x :: xs, h => g h ∧ ie h p x env fun env2 => tt env2 h fun b h3 => if b = true then te env2 h3 fun y h4 => match h4[d]? with
      | some (.lst acc) => acc.length < sizeLine ∧ lcE g p tt te d env P xs (h4.set d (.lst (acc ++ [y])))
      | _ => False
    else lcE g p tt te d env P xs h3
def lLc (ti : LI) (p : Pat) (tt : LTt) (te : LT) (vs : List Nat) : LT := fun env h P => ti env h fun g xs h1 => lcE g p tt te h1.length (bJ env vs) P xs (h1 ++ [.lst []])
theorem le_lc {elt tg iter : Expr} {ifs : List Expr} {scope : Scope} (own : List (Str × Nat)) {ti : LI} {p : Pat} {tt : LTt} {te : LT} (hc : X.calm = true) (hN : X.N.Nodup) (hi : LIt X tg iter ti) (ok : BlkOk X.N X.env.scope scope own)
    (hp : ∀ i ∈ Pat.slots p, i ∈ own.map (·.2))
    (hg : ∀ (s : Shared) (H : Hp) (C : Addr) (cl : List (Str × Addr)) (fp : List Addr), LG (X.blk s H scope (compEnvC scope cl C X.env) fp) tg p)
    (ht : ∀ (s : Shared) (H : Hp) (C : Addr) (cl : List (Str × Addr)) (fp : List Addr), LTs (X.blk s H scope (compEnvC scope cl C X.env) fp) ifs tt)
    (he : ∀ (s : Shared) (H : Hp) (C : Addr) (cl : List (Str × Addr)) (fp : List Addr), LE (X.blk s H scope (compEnvC scope cl C X.env) fp) elt te) (hs : ∀ x, foldedSetIterable iter X.env x = pure x := by intro _; rfl) :
    LE X (.ListComp elt [⟨tg, iter, ifs, 0⟩] scope pos) (lLc ti p tt te (own.map (·.2))) := by
  refine ⟨PE.imp (pe_lc (g := gP X.K p) (tt := upT X.K tt) (te := up X.K te) hc hN hi.pi ok (fun s H C cl fp => (hg s H C cl fp).pg) (fun s H C cl fp => (ht s H C cl fp).pts) (fun s H C cl fp => (he s H C cl fp).pe) hs) fun σ H Q ⟨m, env, h, P, at_, t1, k⟩ => ⟨m, env, h, _, at_, t1, fun g xs h1 p1 m1 H1 J E1 R1 sim D hD => ?_⟩⟩
  have E2 : Ex X.K m1 h1.length H1 (mput m1 h1.length D) (h1 ++ [EO.lst []]).length (upd H1 D (.lst [])) := Ex.new hD
  have R2 : cJ X.K (mput m1 h1.length D) (h1 ++ [EO.lst []]) (upd H1 D (.lst [])) := R1.new hD ⟨[], upd_same, .nil⟩
  refine ⟨fun i c H' => c = xs.length - i ∧ i ≤ xs.length ∧ ∃ m2 h2, Ex X.K m1 h1.length H1 m2 h2.length H' ∧ cJ X.K m2 h2 H' ∧ m2 h1.length = D ∧ h1.length < h2.length ∧ lcE g p tt te h1.length (bJ env (own.map (·.2))) P (xs.drop i) h2,
    ⟨xs.length, by simp, Nat.zero_le _, _, _, E2, R2, kZ, by simp, by simpa using p1⟩, ?_⟩
  rintro i c H' ⟨rfl, hi, m2, h2, E3, R3, eD, lD, q⟩
  by_cases hlt : i < xs.length
  · have ed : xs.drop i = xs[i] :: xs.drop (i + 1) := List.drop_eq_getElem_cons hlt
    rw [ed, lcE] at q
    obtain ⟨qg, q⟩ := q
    obtain ⟨s1, s2⟩ := sim i h2 m2 H' E3 R3 qg
    obtain ⟨go, yl⟩ := s1 xs[i] (List.getElem?_eq_getElem hlt)
    refine .inr ⟨go, fun H4 => ∃ m4 h4, Ex X.K m1 h1.length H1 m4 h4.length H4 ∧ cJ X.K m4 h4 H4 ∧ m4 h1.length = D ∧ h1.length < h4.length ∧ lcE g p tt te h1.length (bJ env (own.map (·.2))) P (xs.drop (i + 1)) h4,
      fun H4 q4 => ⟨xs.length - (i + 1), by omega, rfl, hlt, q4⟩, fun v H4 y => ?_⟩
    obtain ⟨E4, R4, r4⟩ := yl v H4 y
    have E14 := (E1.trans E3).trans E4
    obtain ⟨env5, σ5, q5, f, N5, keep, len⟩ := bind_sim R4 ((at_.nm.ex E14).wipe (own.map (·.2))) r4 q
    refine f _ ⟨wipe_back (ss := Pat.slots p) keep hp (by rw [len, wipe_length]), m2, env5, h2, _, ⟨R4, N5⟩, q5, fun b h6 p6 m6 H6 E6 R6 => ?_⟩
    have E16 := (E3.trans E4).trans E6
    have lt2 := E6.le
    have eD6 : m6 h1.length = D := (E6.eq _ lD).trans eD
    cases b with
    | false =>
      dsimp only
      rw [if_neg Bool.false_ne_true] at p6 ⊢
      exact ⟨m6, h6, E16, R6, eD6, by omega, p6⟩
    | true =>
      dsimp only
      rw [if_pos rfl] at p6 ⊢
      refine ⟨m6, env5, h6, _, ⟨R6, N5.ex E6⟩, p6, fun w h7 p7 m7 H7 y7 E7 R7 r7 => ?_⟩
      have lt7 := E7.le
      have eD7 : m7 h1.length = D := (E7.eq _ (by omega)).trans eD6
      split at p7
      · rename_i acc e7
        obtain ⟨vs, a, r⟩ := R7.obj _ _ e7
        rw [eD7] at a
        refine ⟨vs, a, by rw [← r.length]; exact p7.1, ?_⟩
        have E8 := Ex.write (o := .lst (vs ++ [y7])) (e' := EO.lst (acc ++ [w])) R7 e7
        have R8 := R7.write (o := .lst (vs ++ [y7])) (e' := EO.lst (acc ++ [w])) e7 ⟨_, upd_same, (aC.ex E8 _ _ r).app (.one (az.ex E8 _ _ r7))⟩
        rw [eD7] at E8 R8
        exact ⟨m7, _, (E16.trans E7).trans E8, R8, eD7, by simp; omega, p7.2⟩
      · exact p7.elim
  · have e : i = xs.length := by omega
    subst e
    rw [List.drop_length, lcE] at q
    obtain ⟨_, s2⟩ := sim xs.length h2 m2 H' E3 R3 q.1
    refine .inl ⟨s2 rfl, k _ _ q.2 m2 H' _ (E1.trans E3) R3 (by rw [az]; exact ⟨lD, by rw [eD]⟩)⟩
end
end Y
namespace Y
open PySem PySem.Spec PyProof.Rows L2
abbrev LSp := List EV → EH → EK → Prop
def upSp (K : PySem.W.Frag) (sp : LSp) : List V → Hp → VK → Prop := fun vs H Q => ∃ m h evs P, cJ K m h H ∧ aC K m h.length H evs vs ∧ sp evs h P ∧ Kon K m h.length H P Q
structure FnG (P : Program) (w : World) (K : PySem.W.Frag) (mg : Str → Option Value) (base : Heap) (k : Nat) (f : Addr) (fd : FuncData) (ps : List Str) (sp : LSp) : Prop where
  len : ∀ evs h Q, sp evs h Q → evs.length = ps.length
  run : ∀ (A : Around) (outer : List Env) (s : Shared) (H : Hp) (args : Args) (us : List Value) (vs : List V) (Q : VK), Room k A → A.guards = some [] → Env0 P w K mg base A outer s H →
    BindsTo s fd args (ps.zip us) → Vals vs us → upSp K sp vs H Q → codeAny (model P w) A (.call (.ref f) args) (CR CX0 outer P w H s Q E0) s
def aA (sp : LSp) (t : LA) : LT := fun env h P => t env h fun vs h1 => sp vs h1 P
section
variable {X : Cx} {k : Nat} {f : Addr} {fd : FuncData} {ps : List Str} {sp : LSp} {x : Str} {p pos : Pos} {e : Expr} {es : List Expr} {t : LA}
theorem upSp.len {K : PySem.W.Frag} {vs : List V} {H : Hp} {Q : VK} {n : Nat} (l : ∀ evs h Q, sp evs h Q → evs.length = n) (q : upSp K sp vs H Q) : vs.length = n := by
  obtain ⟨m, h, evs, P, R, r, s, _⟩ := q
  rw [← r.length]
  exact l _ _ _ s
theorem runG {pins : List (Addr × Obj)} {σ : L2.St} {H : Hp} {s : Shared} {Q : VK} {us : List Value} {vs : List V} (F : FnG X.prog X.w X.K X.mg X.base k f fd ps sp) (hr : Room k X.A) (hG : X.A.guards = some [])
    (hb : Binds X.K fd ps []) (I : Inv X pins σ H s) (r : Vals vs us) (q : upSp X.K sp vs H Q) : wpAny (model X.prog X.w) X.A (call (.ref f) us) (EP X pins σ Q) X.xe s := by
  have hl : us.length = ps.length := r.length.symm.trans (upSp.len F.len q)
  have b := hb s us I.kIn (by simpa using hl)
  rw [List.append_nil] at b
  refine wpAny_call (codeAny_mono (F.run X.A X.stack s H _ us vs Q hr hG I.env0 b r q) fun o s' ho => ?_)
  match o, ho with
  | .error _, ho => exact ho.elim
  | .ok (.ret u), ho => exact I.after ho
  | .ok .next, ho => exact ho.elim
  | .ok .brk, ho => exact ho.elim
  | .ok .cont, ho => exact ho.elim
theorem up_call {K : PySem.W.Frag} (σ : L2.St) (H : Hp) (Q : VK) (q : up K (aA sp t) σ H Q) : upA K t σ H fun vs H1 => upSp K sp vs H1 Q := by
  obtain ⟨m, env, h, P, at_, t1, k⟩ := q
  exact ⟨m, env, h, _, at_, t1, fun vs h1 p1 m1 H1 xs E1 R1 r1 => ⟨m1, h1, vs, P, R1, r1, p1, k.ex E1⟩⟩
theorem aF (F : FnG X.prog X.w X.K X.mg X.base k f fd ps sp) (hr : Room k X.A) (hG : X.A.guards = some []) (hg : Gl X x) (hm : X.mg x = some (.ref f)) (hk : PySem.W.keepIn X.K (.ref f) = true) (hb : Binds X.K fd ps [])
    (ha : LAs X (e :: es) t) (hdb : (x == ("__debug__" : Str)) = false := by decide) (he : starEach (e :: es) X.env = (false, eval e X.env) :: starEach es X.env := by rfl) (hpl : (backTo pos (starEach es X.env)).any (·.1) = false := by rfl) :
    LE X (.Call (.Name x p) (e :: es) [] pos) (aA sp t) :=
  ⟨⟨fun pins s σ H Q I q => wpAny_Call_Name_kw (ld_glob I hg hm (PySem.W.callWith_K (h₀ := X.base) I.ok.mod.kin hk (thn (ha.pa.run pos pins s σ H _ I (up_call σ H Q q)) fun us s1 ⟨vs, H1, I1, r, q1⟩ =>
    ⟨I1.kIn, runG F hr hG hb I1 r q1⟩) he hpl) hdb)⟩⟩
theorem le_call0 (F : FnG X.prog X.w X.K X.mg X.base k f fd ps sp) (hr : Room k X.A) (hG : X.A.guards = some []) (hg : Gl X x) (hm : X.mg x = some (.ref f)) (hk : PySem.W.keepIn X.K (.ref f) = true) (hb : Binds X.K fd ps [])
    (hdb : (x == ("__debug__" : Str)) = false := by decide) : LE X (.Call (.Name x p) [] [] pos) (aA sp ak) :=
  ⟨⟨fun pins s σ H Q I ⟨m, env, h, P, at_, t1, k⟩ => wpAny_Call_Name_kw (ld_glob I hg hm (PySem.W.callWith_K0 I.kIn hk (runG (us := []) (vs := []) F hr hG hb I .nil ⟨m, h, [], P, at_.hp, .nil, t1, k⟩)) hdb)⟩⟩
end
def bF (N : List Str) (vs : List EV) : En := vs.map some ++ List.replicate (N.length - vs.length) none
theorem start_rel {K : PySem.W.Frag} {m : Nat → Addr} {n : Nat} {H : Hp} (N : List Str) {evs : List EV} {vs : List V} (r : aC K m n H evs vs) : RelN K m n H (bF N evs) (start N vs) := by
  have l := r.length
  unfold bF L2.start
  refine ⟨by simp [l], fun i v h => ?_⟩
  by_cases hi : i < evs.length
  · rw [List.getElem?_append_left (by simpa using hi), List.getElem?_map] at h
    obtain ⟨w, hw, e⟩ := Option.map_eq_some_iff.mp h
    cases e
    obtain ⟨x, hx, rx⟩ := r.at hw
    exact ⟨x, by rw [List.getElem?_append_left (by simp; omega), List.getElem?_map, hx]; rfl, rx⟩
  · rw [List.getElem?_append_right (by simpa using hi), List.getElem?_replicate] at h
    split at h <;> cases h
abbrev aO (Q : EK) : LEnds := { nx := fun _ h => Q .non h, rt := Q }
theorem bZ {P : Program} {w : World} {K : PySem.W.Frag} {mg : Str → Option Value} {base : Heap} {k : Nat} {f : Addr} {fd : FuncData} {name qual : Str} {params : Arguments} {body : List Stmt} {scope : Scope} {N ps : List Str} {sp : LSp}
    (F : FunD K name qual params body scope [] [] f fd) (Sc : FnScope N ps scope) (len : ∀ evs h Q, sp evs h Q → evs.length = ps.length)
    (hbody : ∀ (cdv : Value) (A : Around) (outer : List Env) (s : Shared) (H : Hp), Room k (A.deeper (envOfC qual scope s.heap.objs.size f cdv)) → (A.deeper (envOfC qual scope s.heap.objs.size f cdv)).guards = some [] →
      ∃ t, LSs (cxOf CX0 P w K mg base N qual scope f cdv A outer s H E0).nox body t ∧ ∀ evs h Q, sp evs h Q → t (aO Q) (bF N evs) h) :
    FnG P w K mg base (k + 1) f fd ps sp := by
  obtain ⟨oc, od, dV, kV, doc, pm, an, cdv, ct, osl, rfl, lk, hcd, _, _⟩ := F.ex
  refine ⟨len, fun A outer s H args us vs Q hr hG e0 hb r q => ?_⟩
  have hl : vs.length = ps.length := upSp.len len q
  have keepB : ∀ b o, base.get? b = some o → s.heap.get? b = some o := fun b o e => (e0.bs b o e).1
  have inK := e0.mod.kin.keeps keepB
  obtain ⟨t, ht, hq⟩ := hbody cdv A outer s H (hr.deeper _) hG
  refine codeAny_call_function hr.depth (inK _ _ lk) rfl Sc.co Sc.gen rfl (PySem.W.codeRec_of inK hcd) (hb _ _ _ _ ?_)
  refine wpAny_newFunctionEnv_cells Sc.kind (fun y hy => ?_) fun env he s1 x => ?_
  · rcases Sc.par y.1 (List.of_mem_zip hy).1 with z | z
    · exact .inl z
    · exact .inr ⟨z, PySem.W.cellsFrom_some _ _ _ (.inl z)⟩
  · subst he
    refine ⟨(e0.mod.nolimit.keeps keepB).keeps x.toInCall.keep, codeAny_func ?_⟩
    obtain ⟨m, h, evs, Pk, R, re, sq, kq⟩ := q
    have I := inv_start (CX := CX0) (P := P) (w := w) (K := K) (mg := mg) (base := base) (E := E0) Sc hr.hd e0 hl r x
    have run := ht.pss.nox.run [] s1 (start N vs) H { nx := fun _ H' => Q .non H', rt := Q } I ⟨m, bF N evs, h, aO Pk, ⟨R, start_rel N re⟩, hq evs h Pk sq, ⟨fun env' h' p m' H' σ' E' a' => kq _ _ p m' H' _ E' a'.hp (by rw [az]), kq, fun _ _ z => z.elim, fun _ _ z => z.elim⟩⟩
    refine wpAny_mono run (fun fl s' hs => ?_) fun e s' hs => hs
    match fl, hs with
    | .ret u, ⟨v, σ', H', J, rv, z⟩ => exact ⟨v, H', J.os, J.bare, J.base, J.hok, rv, z⟩
    | .next, ⟨σ', H', J, z⟩ => exact ⟨.non, H', J.os, J.bare, J.base, J.hok, rfl, z⟩
    | .brk, ⟨_, _, _, z⟩ => exact z.elim
    | .cont, ⟨_, _, _, z⟩ => exact z.elim
def spTop (n : Nat) : LSp := fun evs h Q => ∃ ns : List Int, evs = [.ref 0] ∧ h = [.frz (ns.map EV.int)] ∧ ns.length ≤ n ∧ ∀ h', Q (.bl true) h'
theorem rel_ints {K : PySem.W.Frag} {m : Nat → Addr} {n : Nat} {H : Hp} : ∀ ns : List Int, aC K m n H (ns.map EV.int) (ns.map V.int)
  | [] => .nil
  | i :: l => .cons (by rw [az]) (rel_ints l)
theorem up_top {K : PySem.W.Frag} {H : Hp} {a : Addr} {ns : List Int} {n : Nat} (hl : ns.length ≤ n) (hf : FrzL K H a (ns.map V.int)) : upSp K (spTop n) [.ref a] H fun v _ => v = .bl true := by
  refine ⟨fun _ => a, [.frz (ns.map EV.int)], [.ref 0], fun v _ => v = .bl true, ⟨fun r o hr => ?_, fun r q o u hr hq fo => ?_⟩, .one (by rw [az]; exact ⟨Nat.one_pos, rfl⟩), ⟨ns, rfl, rfl, hl, fun _ => rfl⟩, fun v h' e m' H' x E R r => ?_⟩
  · cases r with
    | zero =>
      cases hr
      exact ⟨_, hf, rel_ints ns⟩
    | succ r => simp at hr
  · cases r with
    | zero => cases hr; cases fo
    | succ r => simp at hr
  · subst e
    rw [az] at r
    exact r
section
variable {P : Program} {w : World} {K : PySem.W.Frag} {mg : Str → Option Value}
theorem topCall {mb : Str → Option Value} {k n : Nat} {fa a : Addr} {fd : FuncData} {x : Str} {s₁ : Shared} {vs : List Value} {ns : List Int} (KX : K.In s₁.heap) (hns : s₁.heap.Ns mainGlobals mg) (hb : s₁.heap.Ns builtinsNs mb)
    (hbb : ∀ x : Str, x ≠ "__name__" → mb x = bootBuiltins x) (hlim : s₁.heap.NoLimit) (hg : s₁.gens = #[]) (ha : s₁.heap.get? a = some { cls := .type "list", data := .seq vs.toArray }) (hi : IntsAre vs ns) (hl : ns.length ≤ n) (hn : n ≤ sizeLine) (hr : Room k callerA)
    (F : ∀ base : Heap, K.In base → base.Ns mainGlobals mg → FnG P w K mg base k fa fd [x] (spTop n)) (hbind : ∀ (s : Shared) (u : Value), BindsTo s fd ⟨[u], []⟩ [(x, u)]) :
    codeAny (model P w) callerA (.call (.ref fa) ⟨[.ref a], []⟩) (fun r s' => r = .ok (.ret (.bool true)) ∧ OldK s₁.heap s'.heap ∧ s'.os = s₁.os ∧ AllBare s'.gens) s₁ := by
  have go : ∀ H : Hp, (∀ b u, H b = some u → b = a ∧ u = .frz { cls := .type "list", data := .seq vs.toArray } (.lst (ns.map V.int))) → (∀ u, H a = some u → K.lookup a = none) → FrzL K H a (ns.map V.int) →
      codeAny (model P w) callerA (.call (.ref fa) ⟨[.ref a], []⟩) (fun r s' => r = .ok (.ret (.bool true)) ∧ OldK s₁.heap s'.heap ∧ s'.os = s₁.os ∧ AllBare s'.gens) s₁ := by
    intro H hH hK hf
    have hok : HOk P w H s₁.heap := fun b u e => by
      obtain ⟨rfl, rfl⟩ := hH b u e
      exact ⟨ha, by rw [List.length_map]; omega, vs, _, vals_ints hi, ha⟩
    have off : ∀ {b : Addr} {o : Obj}, s₁.heap.get? b = some o → (b = a → H a = none) → (hidT s₁.heap H).get? b = some o := fun {b o} e z => hidT_get e (by
      cases q : H b with
      | none => rfl
      | some u =>
        have e2 := (hH b u q).1
        rw [e2, z e2] at q
        cases q)
    have ns' : ∀ {b : Addr} {m : Str → Option Value}, s₁.heap.Ns b m → (hidT s₁.heap H).Ns b m := fun {b m} ⟨o, es, ep, e, d, r⟩ => ⟨o, es, ep, off e (fun z => by
      subst z
      rw [ha] at e
      cases e
      cases (show Data.seq vs.toArray _ = Data.dict es ep from d)), d, r⟩
    have inB : K.In (hidT s₁.heap H) := fun b o e => off (KX b o e) fun z => by
      subst z
      cases q : H b with
      | none => rfl
      | some u => rw [hK u q] at e; cases e
    obtain ⟨ml, l1, l2⟩ := hlim
    have md : Mod K mg (hidT s₁.heap H) := ⟨inB, ns' hns, ⟨mb, ns' hb, hbb⟩, ⟨ml, ns' l1, l2⟩⟩
    have e0 : Env0 P w K mg (hidT s₁.heap H) callerA [] s₁ H := ⟨rfl, md, fun b o e => of_hidT e, Nat.le_of_eq (hidT_size _ _), trivial, fun b hb => (nomatch hb), hok, .of_eq hg⟩
    refine codeAny_mono ((F _ inB (ns' hns)).run callerA [] s₁ H ⟨[.ref a], []⟩ [.ref a] [.ref a] (fun v _ => v = .bl true) hr rfl e0 (hbind s₁ (.ref a)) (.cons rfl .nil) (up_top hl hf)) fun r s' h => ?_
    match r, h with
    | .error _, h => exact h.elim
    | .ok .next, h => exact h.elim
    | .ok .brk, h => exact h.elim
    | .ok .cont, h => exact h.elim
    | .ok (.ret u), ⟨v, H', os, bare, un, hok', rv, q⟩ =>
      have q' : v = .bl true := q
      subst q'
      have hu : u = Value.bool true := rv
      subst hu
      refine ⟨rfl, OldK.of_keep fun b o e => ?_, os, bare⟩
      cases z : H b with
      | none => exact un.keep b o e z (fun y => nomatch y) (fun y => nomatch y)
      | some t =>
        obtain ⟨rfl, rfl⟩ := hH b t z
        have z2 := un.frzs b _ _ z
        obtain ⟨e2, _⟩ := hok' b _ z2
        rw [ha] at e
        cases e
        exact e2
  cases hk : K.lookup a with
  | some o =>
    have e := KX a o hk
    rw [ha] at e
    cases e
    exact go (fun _ => none) (fun b u z => nomatch z) (fun u z => nomatch z) (.inr ⟨_, vs.toArray, _, hk, rfl, rfl, rfl, by rw [List.size_toArray, hi.length]; omega, by simpa using vals_ints hi⟩)
  | none =>
    refine go (fun b => if b = a then some (.frz { cls := .type "list", data := .seq vs.toArray } (.lst (ns.map V.int))) else none) (fun b u z => ?_) (fun _ _ => hk) (.inl ⟨_, if_pos rfl⟩)
    by_cases hb : b = a
    · rw [show (if b = a then some (HO.frz { cls := .type "list", data := .seq vs.toArray } (.lst (ns.map V.int))) else none) = _ from if_pos hb] at z
      cases z
      exact ⟨hb, rfl⟩
    · rw [show (if b = a then some (HO.frz { cls := .type "list", data := .seq vs.toArray } (.lst (ns.map V.int))) else none) = _ from if_neg hb] at z
      cases z
end
theorem walkG {l : PySem.W.OpenLaw} {n k : Nat} {q : Program} {loose : List Str} {XP : (Str → Option Value) → Heap → Prop} {YP : World → Heap → Prop} {d : DefRec} {x : Str}
    (hn : l.most = some n) (hn2 : n ≤ sizeLine) (hdf : d.params.defaults = []) (hr : Room k callerA)
    (F : ∀ (w : World) (mg : Str → Option Value) (fa : Addr) (h : Heap), YP w h → h.Ns mainGlobals mg → mg d.name = some (.ref fa) →
      ∃ (K : PySem.W.Frag) (fd : FuncData), K.In h ∧ (∀ (s : Shared) (u : Value), BindsTo s fd ⟨[u], []⟩ [(x, u)]) ∧ ∀ base : Heap, K.In base → base.Ns mainGlobals mg → FnG l.prog w K mg base k fa fd [x] (spTop n)) :
    PySem.W.WalkO q loose XP YP l.row.toRowW d [] (fun f vs => PySem.call f vs) := by
  refine Att.attach_call hn hdf fun w s₀ s₁ mg mb fa o pm cd doc a vs ns G Y _ _ _ hmg hobj hints hlen hg => ?_
  obtain ⟨K, fd, KX, hb, hF⟩ := F w mg fa _ Y G.T.g hmg
  exact topCall KX G.T.g G.T.b G.T.builtins G.T.nolimit hg hobj hints hlen hn2 hr hF hb
end Y
namespace Y
open PySem PySem.Spec PyProof.Rows L2
section
variable {X : Cx}
theorem bj.length {K : PySem.W.Frag} {m : Nat → Addr} {n : Nat} {H : Hp} : ∀ {es : List (EV × EV)} {vs : List (L2.Key × V)}, bj K m n H es vs → es.length = vs.length
  | [], _, r => by rw [bj] at r; subst r; rfl
  | _ :: _, _, r => by
    rw [bj] at r
    obtain ⟨k, v, l, rfl, _, _, r⟩ := r
    simp [bj.length r]
def gJ : LC := fun vs h P => match vs with
  | [.str s] => s.length ≤ sizeLine ∧ P (.int s.length) h
  | [.tup xs] => P (.int xs.length) h
  | [.ktup xs] => P (.int xs.length) h
  | [.ref r] => match h[r]? with
    | some (.lst xs) => P (.int xs.length) h
    | some (.frz xs) => P (.int xs.length) h
    | some (.dic xs) => P (.int xs.length) h
    | _ => False
  | _ => False
theorem j6 : jX X (.builtin "len") gJ := by
  refine ⟨_, CallR.or call_len_str (CallR.or call_len_seq call_lenD), ?_⟩
  intro m h H vs xs P Q R r0 q k
  unfold gJ at q
  split at q
  · obtain ⟨v, rfl, r⟩ := r0.one_inv
    rw [az] at r
    subst r
    exact .inl ⟨_, rfl, by rw [S_len]; exact q.1, by rw [S_len]; exact k.same R q.2 (by rw [az])⟩
  · obtain ⟨v, rfl, r⟩ := r0.one_inv
    rw [az] at r
    obtain ⟨a, vs, rfl, hs, r⟩ := r
    exact .inr (.inl ⟨a, vs, rfl, .inr (SqT.of hs), by rw [← r.length]; exact k.same R q (by rw [az])⟩)
  · obtain ⟨v, rfl, r⟩ := r0.one_inv
    rw [az] at r
    obtain ⟨a, vs, rfl, hs, r⟩ := r
    exact .inr (.inl ⟨a, vs, rfl, .inr hs, by rw [← r.length]; exact k.same R q (by rw [az])⟩)
  · obtain ⟨v, rfl, r⟩ := r0.one_inv
    rw [az] at r
    obtain ⟨_, rfl⟩ := r
    split at q
    · rename_i e
      obtain ⟨vs, a, r⟩ := R.obj _ _ e
      exact .inr (.inl ⟨_, vs, rfl, .inl (SqL.of a), by rw [← r.length]; exact k.same R q (by rw [az])⟩)
    · rename_i e
      obtain ⟨vs, a, r⟩ := R.obj _ _ e
      exact .inr (.inl ⟨_, vs, rfl, .inl a.sql, by rw [← r.length]; exact k.same R q (by rw [az])⟩)
    · rename_i e
      obtain ⟨vs, a, r⟩ := R.obj _ _ e
      exact .inr (.inr ⟨_, vs, rfl, a, by rw [← r.length]; exact k.same R q (by rw [az])⟩)
    · exact q.elim
  · exact q.elim
def absE : LC := fun vs h P => match vs with
  | [.int i] => P (.int i.natAbs) h
  | _ => False
theorem lc_abs : jX X (.builtin "abs") absE := by
  refine ⟨_, call_abs, ?_⟩
  intro m h H vs xs P Q R r0 q k
  unfold absE at q
  split at q
  · obtain ⟨v, rfl, r⟩ := r0.one_inv
    rw [az] at r
    subst r
    rename_i i
    refine ⟨i, rfl, ?_⟩
    have e : (if i < 0 then -i else i) = (i.natAbs : Int) := by split <;> omega
    rw [e]
    exact k.same R q (by rw [az])
  · exact q.elim
def intOf : LC := fun vs h P => match vs with
  | [.int i] => P (.int i) h
  | [.bl b] => P (.int (if b then 1 else 0)) h
  | _ => False
theorem lc_int : jX X (.type "int") intOf := by
  refine ⟨_, call_int1, ?_⟩
  intro m h H vs xs P Q R r0 q k
  unfold intOf at q
  split at q
  · obtain ⟨v, rfl, r⟩ := r0.one_inv
    rw [az] at r
    subst r
    exact .inl ⟨_, rfl, k.same R q (by rw [az])⟩
  · obtain ⟨v, rfl, r⟩ := r0.one_inv
    rw [az] at r
    subst r
    exact .inr ⟨_, rfl, k.same R q (by rw [az])⟩
  · exact q.elim
theorem aC.ints {K : PySem.W.Frag} {m : Nat → Addr} {n : Nat} {H : Hp} : ∀ {ns : List Int} {vs : List V}, aC K m n H (ns.map EV.int) vs → vs = ns.map V.int
  | [], _, r => by rw [List.map_nil, aC] at r; exact r
  | i :: l, _, r => by
    rw [List.map_cons, aC] at r
    obtain ⟨v, t, rfl, a, b⟩ := r
    rw [az] at a
    rw [a, aC.ints b]; rfl
def reprE : LC := fun vs h P => match vs with
  | [v] => ∃ d, Dat h 60 v d ∧ d.showable = true ∧ d.shown.length ≤ sizeLine ∧ P (.str d.shown.cps.toList) h
  | _ => False
def rRepr (K : PySem.W.Frag) : List V → Hp → VK → Prop := fun xs H Q => ∃ x d, xs = [x] ∧ Dp K H x d ∧ d.depth ≤ 60 ∧ d.plain = true ∧ d.showable = true ∧ d.shown.length ≤ sizeLine ∧ Q (.str d.shown) H
mutual
theorem nZ : ∀ d : PyData, d.plain = true → d.hasDict = false
  | .none, _ => by simp only [PyData.hasDict]
  | .bool _, _ => by simp only [PyData.hasDict]
  | .int _, _ => by simp only [PyData.hasDict]
  | .str _, _ => by simp only [PyData.hasDict]
  | .list xs, h => by simp only [PyData.hasDict]; exact plain_noDicts xs (by simpa [PyData.plain] using h)
  | .tuple xs, h => by simp only [PyData.hasDict]; exact plain_noDicts xs (by simpa [PyData.plain] using h)
  | .dict _, h => by simp [PyData.plain] at h
theorem plain_noDicts : ∀ ds : List PyData, PyData.plainAll ds = true → PyData.hasDictAll ds = false
  | [], _ => by simp only [PyData.hasDictAll]
  | d :: ds, h => by
    have h' : d.plain = true ∧ PyData.plainAll ds = true := by simpa [PyData.plainAll] using h
    simp only [PyData.hasDictAll, nZ d h'.1, plain_noDicts ds h'.2, Bool.or_self]
end
theorem call_reprD (hG : X.A.guards = some []) (hu : X.A.units + 64 < cLine) : CallR X (.builtin "repr") (rRepr X.K) := by
  intro pins s σ H xs us Q I r q
  obtain ⟨x, d, rfl, hd, dd, pd, sd, zd, q⟩ := q
  obtain ⟨u, rfl, ru⟩ := vals1 r
  cases hd with
  | non =>
    cases ru
    simp only [PyData.shown] at q
    exact PySem.P.repr_of_none ⟨.str _, H, I.tok _, ⟨_, rfl⟩, q⟩
  | bl b =>
    cases ru
    simp only [PyData.shown] at q
    exact PySem.P.repr_of_bool ⟨.str _, H, I.tok _, ⟨_, rfl⟩, q⟩
  | int i =>
    obtain ⟨t, rfl⟩ := ru
    simp only [PyData.shown] at q
    exact PySem.P.repr_of_int (by simpa [PyData.showable] using sd) ⟨.str _, H, I.tok _, ⟨_, rfl⟩, q⟩
  | str z =>
    obtain ⟨t, rfl⟩ := ru
    simp only [PyData.shown] at q zd
    exact PySem.P.repr_of_str ⟨.str _, H, I.tok _, ⟨_, rfl⟩, q⟩ zd
  | lst hs ha =>
    cases ru
    obtain ⟨as, rd⟩ := Dp.reads I _ _ _ (.lst hs ha) rfl
    exact PySem.repr_of_reads' rd sd (fun z => by rw [nZ _ pd] at z; cases z) hG (by omega) (fun _ _ e => e) (fun h' u tk kk => ⟨.str _, H, I.kept kk, ⟨_, rfl⟩, q⟩) zd
  | tup hs ha =>
    cases ru
    obtain ⟨as, rd⟩ := Dp.reads I _ _ _ (.tup hs ha) rfl
    exact PySem.repr_of_reads' rd sd (fun z => by rw [nZ _ pd] at z; cases z) hG (by omega) (fun _ _ e => e) (fun h' u tk kk => ⟨.str _, H, I.kept kk, ⟨_, rfl⟩, q⟩) zd
theorem lc_repr (hG : X.A.guards = some []) (hu : X.A.units + 64 < cLine) : jX X (.builtin "repr") reprE := by
  refine ⟨_, call_reprD hG hu, ?_⟩
  intro m h H vs xs P Q R r0 q k
  unfold reprE at q
  split at q
  · obtain ⟨v, rfl, r⟩ := r0.one_inv
    obtain ⟨d, dd, sd, zd, p⟩ := q
    exact ⟨v, d, rfl, Dat.dp R _ _ _ _ dd r, (Dat.dep _ _ _ dd).1, (Dat.dep _ _ _ dd).2, sd, zd, k.same R p (by rw [az])⟩
  · exact q.elim
def listOf : LC := fun vs h P => match vs with
  | [.tup xs] => P (.ref h.length) (h ++ [.lst xs])
  | [.ref r] => match h[r]? with
    | some (.lst xs) => P (.ref h.length) (h ++ [.lst xs])
    | some (.frz xs) => P (.ref h.length) (h ++ [.lst xs])
    | _ => False
  | _ => False
theorem lc_list : jX X (.type "list") listOf := by
  refine ⟨_, call_list_of, ?_⟩
  intro m h H vs xs P Q R r0 q k
  unfold listOf at q
  split at q
  · obtain ⟨v, rfl, r⟩ := r0.one_inv
    rw [az] at r
    obtain ⟨a, vs, rfl, hs, r⟩ := r
    exact ⟨a, vs, rfl, .inr (SqT.of hs), fun l hl => k.lst R q r hl⟩
  · obtain ⟨v, rfl, r⟩ := r0.one_inv
    rw [az] at r
    obtain ⟨_, rfl⟩ := r
    split at q
    · rename_i e
      obtain ⟨vs, a, r⟩ := R.obj _ _ e
      exact ⟨_, vs, rfl, .inl (SqL.of a), fun l hl => k.lst R q r hl⟩
    · rename_i e
      obtain ⟨vs, a, r⟩ := R.obj _ _ e
      exact ⟨_, vs, rfl, .inl a.sql, fun l hl => k.lst R q r hl⟩
    · exact q.elim
  · exact q.elim
def tupleOf : LC := fun vs h P => match vs with
  | [.tup xs] => P (.tup xs) h
  | [.ref r] => match h[r]? with
    | some (.lst xs) => P (.tup xs) h
    | some (.frz xs) => P (.tup xs) h
    | _ => False
  | _ => False
theorem lc_tuple : jX X (.type "tuple") tupleOf := by
  refine ⟨_, call_tuple_of, ?_⟩
  intro m h H vs xs P Q R r0 q k
  unfold tupleOf at q
  split at q
  · obtain ⟨v, rfl, r⟩ := r0.one_inv
    have r0 := r
    rw [az] at r
    obtain ⟨a, vs, rfl, hs, r⟩ := r
    exact ⟨a, vs, rfl, .inr ⟨(SqT.of hs), k.same R q r0⟩⟩
  · obtain ⟨v, rfl, r⟩ := r0.one_inv
    rw [az] at r
    obtain ⟨_, rfl⟩ := r
    split at q
    · rename_i e
      obtain ⟨vs, a, r⟩ := R.obj _ _ e
      exact ⟨_, vs, rfl, .inl ⟨SqL.of a, fun l hl => k.tup R q r hl⟩⟩
    · rename_i e
      obtain ⟨vs, a, r⟩ := R.obj _ _ e
      exact ⟨_, vs, rfl, .inl ⟨a.sql, fun l hl => k.tup R q r hl⟩⟩
    · exact q.elim
  · exact q.elim
end
def onList (v : EV) (h : EH) (f : Nat → List EV → Prop) : Prop := match v with
  | .ref r => match h[r]? with
    | some (.lst xs) => f r xs
    | _ => False
  | _ => False
section
variable {X : Cx}
theorem onList_sim {K : PySem.W.Frag} {m : Nat → Addr} {h : EH} {H : Hp} {v : EV} {x : V} {f : Nat → List EV → Prop} (R : cJ K m h H) (r : az K m h.length H v x) (q : onList v h f) : ∃ i xs vs, h[i]? = some (.lst xs) ∧ x = .ref (m i) ∧ H (m i) = some (.lst vs) ∧ aC K m h.length H xs vs ∧ f i xs := by
  unfold onList at q
  split at q
  · rw [az] at r
    obtain ⟨_, rfl⟩ := r
    split at q
    · rename_i e
      obtain ⟨vs, a, r⟩ := R.obj _ _ e
      exact ⟨_, _, vs, e, rfl, a, r, q⟩
    · exact q.elim
  · exact q.elim
theorem Kon.upd {K : PySem.W.Frag} {m : Nat → Addr} {H : Hp} {h : EH} {P : EK} {Q : VK} (k : Kon K m h.length H P Q) (R : cJ K m h H) {i : Nat} {xs ys : List EV} {us : List V} {v : EV} {x : V} (e : h[i]? = some (.lst xs)) (p : P v (h.set i (.lst ys))) (r : az K m h.length H v x) (ru : aC K m h.length H ys us) : Q x (upd H (m i) (.lst us)) := by
  have E : Ex K m h.length H m (h.set i (.lst ys)).length (L2.upd H (m i) (.lst us)) := Ex.write R e
  exact k _ _ p m _ _ E (R.write e ⟨us, upd_same, aC.ex E _ _ ru⟩) (az.ex E _ _ r)
def insertE : LM := fun v vs h P => match vs with
  | [.int i, y] => onList v h fun r xs => xs.length < sizeLine ∧ 0 ≤ i ∧ i < 2 ^ 63 ∧ P .non (h.set r (.lst (xs.take i.toNat ++ [y] ++ xs.drop i.toNat)))
  | _ => False
theorem lm_insert {K : PySem.W.Frag} : LMl K "list" (fun x vs H Q => ∃ (l : Addr) (xs : List V) (i : Int) (y : V), x = .ref l ∧ vs = [.int i, y] ∧ H l = some (.lst xs) ∧ xs.length < sizeLine ∧ 0 ≤ i ∧ i < 2 ^ 63 ∧
    Q .non (upd H l (.lst (xs.take i.toNat ++ [y] ++ xs.drop i.toNat)))) insertE := by
  intro m h H v x vs xs P Q R rx rv q k
  unfold insertE at q
  split at q
  · obtain ⟨z, y, rfl, rz, ry⟩ := rv.two_inv
    rw [az] at rz
    subst rz
    obtain ⟨i, es, us, e, rfl, a, r, q⟩ := onList_sim R rx q
    exact ⟨_, us, _, y, rfl, rfl, a, by rw [← r.length]; exact q.1, q.2.1, q.2.2.1, k.upd R e q.2.2.2 (by rw [az]) (((r.take _).app (.one ry)).app (r.drop _))⟩
  · exact q.elim
def extendE : LM := fun v vs h P => match vs with
  | [.ref b] => onList v h fun r xs => onList (.ref b) h fun _ ys => xs.length + ys.length ≤ sizeLine ∧ P .non (h.set r (.lst (xs ++ ys)))
  | _ => False
theorem lm_extend {K : PySem.W.Frag} : LMl K "list" rExtend extendE := by
  intro m h H v x vs xs P Q R rx rv q k
  unfold extendE at q
  split at q
  · obtain ⟨y, rfl, ry⟩ := rv.one_inv
    obtain ⟨i, es, us, e, rfl, a, r, q⟩ := onList_sim R rx q
    obtain ⟨j, fs, ws, e2, rfl, a2, r2, q⟩ := onList_sim R ry q
    exact ⟨_, _, us, ws, rfl, rfl, a, a2, by rw [← r.length, ← r2.length]; exact q.1, k.upd R e q.2 (by rw [az]) (r.app r2)⟩
  · exact q.elim
def joinE : LM := fun v vs h P => match v, vs with
  | .str a, [.ref r] => match h[r]? with
    | some (.lst xs) => ∃ ys : List (List Nat), xs = ys.map EV.str ∧ (ys.map (·.length)).sum + ys.length * a.length ≤ 16777216 ∧ P (.str (TL.joinL a ys)) h
    | _ => False
  | _, _ => False
theorem aC.strs {K : PySem.W.Frag} {m : Nat → Addr} {n : Nat} {H : Hp} : ∀ {ns : List (List Nat)} {vs : List V}, aC K m n H (ns.map EV.str) vs → vs = (ns.map S).map V.str
  | [], _, r => by rw [List.map_nil, aC] at r; exact r
  | i :: l, _, r => by
    rw [List.map_cons, aC] at r
    obtain ⟨v, t, rfl, a, b⟩ := r
    rw [az] at a
    rw [a, aC.strs b]; rfl
theorem join_S (a : List Nat) (ys : List (List Nat)) : Txt.join (S a) (ys.map S) = S (TL.joinL a ys) := by
  refine TL.ext_tl ?_
  rw [TL.join_eq, TL.tl_join, List.map_map]
  have : (TL.tl ∘ S) = fun z => z := rfl
  rw [this, List.map_id']
theorem join_nil : ∀ ys : List (List Nat), TL.joinL [] ys = ys.flatten
  | [] => rfl
  | [p] => by simp [TL.joinL]
  | p :: q :: r => by
    rw [TL.joinL, join_nil (q :: r)]
    simp
theorem lm_join {K : PySem.W.Frag} : LMl K "str" (fun x xs H Q => ∃ a p, ∃ ys : List Str, x = .str a ∧ xs = [.ref p] ∧ (SqL K H p (ys.map V.str) ∨ SqT K H p (ys.map V.str)) ∧ (ys.map (·.length)).sum + ys.length * a.length ≤ 16777216 ∧ Q (.str (Txt.join a ys)) H) joinE := by
  intro m h H v x vs xs P Q R rx rv q k
  unfold joinE at q
  split at q
  · obtain ⟨y, rfl, ry⟩ := rv.one_inv
    rw [az] at rx
    rw [az] at ry
    obtain ⟨_, rfl⟩ := ry
    subst rx
    split at q
    · rename_i e
      obtain ⟨us, a, r⟩ := R.obj _ _ e
      obtain ⟨ys, rfl, z, p⟩ := q
      have := r.strs
      subst this
      refine ⟨_, _, ys.map S, rfl, rfl, .inl (SqL.of a), ?_, by rw [join_S]; exact k.same R p (by rw [az])⟩
      rw [S_len, List.length_map, List.map_map]
      have : ((fun x : Str => x.length) ∘ S) = fun z : List Nat => z.length := by funext z; exact S_len z
      rw [this]
      exact z
    · exact q.elim
  · exact q.elim
def repN {α : Type} (k : Int) (xs : List α) : List α := (List.replicate k.toNat xs).flatten
def iK : LO := fun v w h P => match v, w with
  | .int i, .int j => PySem.IntMulOk i j ∧ P (.int (i * j)) h
  | .str s, .int k => (0 < k ∧ k < 2 ^ 24 ∧ s.length * k.toNat ≤ 1000000) ∧ P (.str (repN k s)) h
  | .tup xs, .int k => (xs ≠ [] ∧ 2 ≤ k ∧ k ≤ 1000 ∧ xs.length ≤ 1000) ∧ P (.tup (repN k xs)) h
  | .ref r, .int k => match h[r]? with
    | some (.lst xs) => (-(2 ^ 63) ≤ k ∧ k < 2 ^ 63 ∧ xs.length * k.toNat ≤ sizeLine) ∧ P (.ref h.length) (h ++ [.lst (repN k xs)])
    | _ => False
  | _, _ => False
theorem foldl_rep (x : Array Nat) : ∀ (k : Nat) (a : Array Nat), (List.replicate k x).foldl (· ++ ·) a = a ++ (List.replicate k x.toList).flatten.toArray
  | 0, a => by simp
  | k + 1, a => by
    rw [List.replicate_succ, List.foldl_cons, foldl_rep x k, List.replicate_succ, List.flatten_cons]
    apply Array.ext'
    simp
def rMulS : R2 := fun x y H Q => ∃ (s : List Nat) (k : Int), x = .str (S s) ∧ y = .int k ∧ (0 < k ∧ k < 2 ^ 24 ∧ s.length * k.toNat ≤ 1000000) ∧ Q (.str (S (repN k s))) H
theorem op_mulS : OpR X (binaryOp .Mult) rMulS := by
  intro pins s σ H x y v u Q I rx ry q
  obtain ⟨l, k, rfl, rfl, ⟨h0, h1, hz⟩, q⟩ := q
  obtain ⟨t, rfl⟩ := rx
  obtain ⟨t', rfl⟩ := ry
  have e : (S l).length = l.length := S_len l
  have fin : ∀ tk, EP X pins σ Q (.str (S (repN k l)) tk) { s with toks := tk + 1 } := fun tk => ⟨.str _, H, I.tok _, ⟨_, rfl⟩, q⟩
  refine PySem.P.mul_str ?_ (fun _ _ z => ?_) (fun _ _ => ?_) ?_
  · have a : ¬ k < -(2 ^ 63 : Int) := by omega
    have b : ¬ k ≥ 2 ^ 63 := by omega
    rw [decide_eq_false a, decide_eq_false b]; rfl
  · rw [e] at z
    have h2 : (l.length : Int) * k ≤ 1000000 := by
      have : ((l.length * k.toNat : Nat) : Int) ≤ 1000000 := by omega
      rw [Int.natCast_mul, Int.toNat_of_nonneg (by omega)] at this
      exact this
    have h3 : (l.length : Int) ≤ 1000000 := by
      have : (l.length : Int) * 1 ≤ (l.length : Int) * k := Int.mul_le_mul_of_nonneg_left (by omega) (by omega)
      omega
    have h4 : (2 ^ 63 - 1 : Int) / k ≥ (2 ^ 63 - 1 : Int) / 2 ^ 24 := by
      rw [ge_iff_le, Int.le_ediv_iff_mul_le (by omega)]
      have : (2 ^ 63 - 1 : Int) / 2 ^ 24 * k ≤ (2 ^ 63 - 1 : Int) / 2 ^ 24 * 2 ^ 24 := Int.mul_le_mul_of_nonneg_left (by omega) (by decide)
      have h5 : (2 ^ 63 - 1 : Int) / 2 ^ 24 * 2 ^ 24 ≤ 2 ^ 63 - 1 := by decide
      omega
    have h6 : (2 ^ 63 - 1 : Int) / 2 ^ 24 = 549755813887 := by decide
    omega
  · rw [e]
    unfold Builtin.Str.tooLong
    have : sizeLine = 16777216 := by decide
    rw [decide_eq_false]
    omega
  · rw [if_neg (by omega)]
    by_cases hk : (k == 1 || (S l).length == 0) = true
    · rw [if_pos hk]
      have e2 : repN k l = l := by
        rw [e, Bool.or_eq_true, beq_iff_eq, beq_iff_eq] at hk
        rcases hk with rfl | hk
        · simp [repN]
        · have : l = [] := List.length_eq_zero_iff.mp hk
          subst this
          simp [repN]
      rw [e2] at q
      exact ⟨.str _, H, I, ⟨_, rfl⟩, q⟩
    · rw [if_neg hk]
      have e2 : (⟨(List.replicate k.toNat (S l).cps).foldl (· ++ ·) #[]⟩ : Str) = S (repN k l) := by
        rw [foldl_rep]
        simp [repN]
      rw [e2]
      exact ⟨by
        have e3 : (S (repN k l)).length = l.length * k.toNat := by
          rw [S_len, repN, List.length_flatten, List.map_replicate, List.sum_replicate_nat]
          exact Nat.mul_comm _ _
        rw [e3]
        have : sizeLine = 16777216 := by decide
        omega, fin _⟩
theorem op_mulO : OpR X (binaryOp .Mult) (rI PySem.IntMulOk fun i j => .int (i * j)) := opI fun _ _ _ _ _ _ _ hc q => mul_int q hc
theorem lu : o7 X (binaryOp .Mult) iK := by
  refine ⟨_, OpR.or op_mulO (OpR.or op_mulS (OpR.or op_repT op_rep)), ?_⟩
  intro m h H v w x y P Q R rx ry q k
  unfold iK at q
  split at q
  · rw [az] at rx
    rw [az] at ry
    exact .inl ⟨_, _, rx, ry, q.1, k.same R q.2 (by rw [az])⟩
  · rw [az] at rx
    rw [az] at ry
    exact .inr (.inl ⟨_, _, rx, ry, q.1, k.same R q.2 (by rw [az])⟩)
  · rw [az] at rx
    rw [az] at ry
    obtain ⟨a, us, rfl, hs, r⟩ := rx
    subst ry
    refine .inr (.inr (.inl ⟨a, _, us, rfl, rfl, (SqT.of hs), ?_, q.1.2.1, q.1.2.2.1, by rw [← r.length]; exact q.1.2.2.2, fun p hp => k.tup R q.2 ?_ hp⟩))
    · rintro rfl
      have := r.length
      exact q.1.1 (List.length_eq_zero_iff.mp this)
    · unfold repN
      generalize Int.toNat _ = n
      induction n with
      | zero => exact .nil
      | succ n ih => rw [List.replicate_succ, List.replicate_succ, List.flatten_cons, List.flatten_cons]; exact r.app ih
  · rw [az] at rx
    rw [az] at ry
    obtain ⟨_, rfl⟩ := rx
    subst ry
    split at q
    · rename_i e
      obtain ⟨us, a, r⟩ := R.obj _ _ e
      refine .inr (.inr (.inr ⟨_, _, us, rfl, rfl, a, q.1.1, q.1.2.1, by rw [← r.length]; exact q.1.2.2, fun p hp => k.lst R q.2 ?_ hp⟩))
      unfold repN
      generalize Int.toNat _ = n
      induction n with
      | zero => exact .nil
      | succ n ih => rw [List.replicate_succ, List.replicate_succ, List.flatten_cons, List.flatten_cons]; exact r.app ih
    · exact q.elim
  · exact q.elim
theorem lookup_mem {α β : Type} [BEq α] [LawfulBEq α] {l : List (α × β)} {a : α} {b : β} (h : l.lookup a = some b) : (a, b) ∈ l := by
  induction l with
  | nil => cases h
  | cons p l ih =>
    obtain ⟨x, y⟩ := p
    rw [List.lookup_cons] at h
    cases e : a == x with
    | true =>
      rw [e] at h
      cases h
      rw [beq_iff_eq.mp e]
      exact List.mem_cons_self
    | false =>
      rw [e] at h
      exact List.mem_cons_of_mem _ (ih h)
end
end Y
namespace Y
open PySem PySem.Spec PyProof.Rows L2
section
variable {X : Cx} {pins : List (Addr × Obj)} {s : Shared} {σ : L2.St} {H : Hp}
end
section
variable {P : Program} {w : World} {K : PySem.W.Frag} {elts : List Expr} {kk : Nat} {tpos : Pos}
end
section
variable {X : Cx} {e e2 : Expr} {ta : TA} {p pos tpos : Pos} {elts : List Expr} {kk : Nat}
end
def srcE (v : EV) (h : EH) (P : (EH → Prop) → List EV → Prop) : Prop := match v with
  | .ref r => match h[r]? with
    | some (.lst xs) => P (fun h' => h'[r]? = some (.lst xs)) xs
    | some (.frz xs) => P (fun h' => h'[r]? = some (.frz xs)) xs
    | _ => False
  | .tup xs => P lTrue xs
  | .ktup xs => P lTrue xs
  | .str s => P lTrue (s.map fun c => .str [c])
  | _ => False
def jH (ta : LA) : LI := fun env h P => ta env h fun vs h1 => match vs with
  | [x, y] => srcE x h1 fun g xs => srcE y h1 fun g2 ys => P (fun h' => g h' ∧ g2 h') (List.zipWith (fun a b => EV.tup [a, b]) xs ys) h1
  | _ => False
theorem rel_pair {K : PySem.W.Frag} {m : Nat → Addr} {h : EH} {H : Hp} {a b : EV} {x y : V} {T : Addr} (R : cJ K m h H) (hT : H T = none) (r1 : az K m h.length H a x) (r2 : az K m h.length H b y) :
    Ex K m h.length H m h.length (upd H T (.tup [x, y])) ∧ cJ K m h (upd H T (.tup [x, y])) ∧ az K m h.length (upd H T (.tup [x, y])) (.tup [a, b]) (.ref T) := by
  have E : Ex K m h.length H m h.length (upd H T (.tup [x, y])) := Ex.tup1 hT
  refine ⟨E, R.tup hT, ?_⟩
  rw [az]
  exact ⟨T, [x, y], rfl, upd_same, .cons (az.ex E _ _ r1) (.one (az.ex E _ _ r2))⟩
section
variable {X : Cx} {e e2 : Expr} {ta : LA} {p pos tpos : Pos} {elts : List Expr} {kk : Nat}
end
def dY (ta : LT) : LT := fun env h P => ta env h fun v h1 => match v with
  | .int i => P (.int (-i)) h1
  | _ => False
theorem le_neg {X : Cx} {a : Expr} {ta : LT} {pos : Pos} (ha : LE X a ta) : LE X (.UnaryOp .USub a pos) (dY ta) := by
  refine ⟨PE.imp (pe_un un_neg ha.pe) fun σ H Q ⟨m, env, h, P, at_, t1, k⟩ => ⟨m, env, h, _, at_, t1, fun v h1 p1 m1 H1 x E1 R1 r1 => ?_⟩⟩
  cases v with
  | int i =>
    rw [az] at r1
    exact ⟨i, r1, k _ _ p1 m1 H1 _ E1 R1 (by rw [az])⟩
  | _ => exact p1.elim
theorem loop_ind {g : EH → Prop} {p : Pat} {tb : LS} {D : LEnds} (I : List EV → En → EH → Prop)
    (stop : ∀ env h, I [] env h → g h ∧ D.nx env h)
    (turn : ∀ x xs env h (k : En → EH → Prop), I (x :: xs) env h → (∀ env' h', I xs env' h' → k env' h') → g h ∧ ie h p x env fun env2 => tb { D with nx := k, ct := k, bk := D.nx } env2 h) :
    ∀ xs env h, I xs env h → loopE g p tb D xs env h
  | [], env, h, i => by rw [loopE]; exact stop env h i
  | x :: xs, env, h, i => by rw [loopE]; exact turn x xs env h _ i fun env' h' i' => loop_ind I stop turn xs env' h' i'
theorem lc_ind {g : EH → Prop} {p : Pat} {tt : LTt} {te : LT} {d : Nat} {env : En} {P : EK} (I : List EV → List EV → EH → Prop)
    (stop : ∀ acc h, I [] acc h → h[d]? = some (.lst acc) → g h ∧ P (.ref d) h)
    (turn : ∀ x xs acc h (ky : EK) (kn : EH → Prop), I (x :: xs) acc h → h[d]? = some (.lst acc) →
      (∀ y h', h'[d]? = some (.lst acc) → acc.length < sizeLine → I xs (acc ++ [y]) (h'.set d (.lst (acc ++ [y]))) → ky y h') → (∀ h', h'[d]? = some (.lst acc) → I xs acc h' → kn h') →
      g h ∧ ie h p x env fun env2 => tt env2 h fun b h3 => if b = true then te env2 h3 ky else kn h3) :
    ∀ xs acc h, h[d]? = some (.lst acc) → I xs acc h → lcE g p tt te d env P xs h
  | [], acc, h, e, i => by rw [lcE]; exact stop acc h i e
  | x :: xs, acc, h, e, i => by
    rw [lcE]
    refine turn x xs acc h _ _ i e (fun y h' e' hl i' => ?_) fun h' e' i' => lc_ind I stop turn xs acc h' e' i'
    rw [e']
    refine ⟨hl, lc_ind I stop turn xs _ _ ?_ i'⟩
    exact List.getElem?_set_self (List.getElem?_eq_some_iff.mp e').1
theorem aV {h : EH} {o : EO} : (h ++ [o])[h.length]? = some o := by simp
theorem qd {h : EH} {o u : EO} : (h ++ [o]).set h.length u = h ++ [u] := by simp
theorem lc_plain {g : EH → Prop} {p : Pat} {tt : LTt} {te : LT} {env : En} {P : EK} {h : EH} (f : EV → Option EV) (xs : List EV) (hl : xs.length ≤ sizeLine) (hg : ∀ acc, g (h ++ [.lst acc]))
    (step : ∀ x ∈ xs, ∀ acc (ky : EK) (kn : EH → Prop), (∀ y, f x = some y → ky y (h ++ [.lst acc])) → (f x = none → kn (h ++ [.lst acc])) →
      ie (h ++ [.lst acc]) p x env fun env2 => tt env2 (h ++ [.lst acc]) fun b h3 => if b = true then te env2 h3 ky else kn h3)
    (fin : P (.ref h.length) (h ++ [.lst (xs.filterMap f)])) : lcE g p tt te h.length env P xs (h ++ [.lst []]) := by
  have key : ∀ ys acc, (∀ x ∈ ys, x ∈ xs) → acc.length + ys.length ≤ xs.length → acc ++ ys.filterMap f = xs.filterMap f → lcE g p tt te h.length env P ys (h ++ [.lst acc]) := by
    intro ys
    induction ys with
    | nil =>
      intro acc _ _ e
      rw [lcE]
      rw [List.filterMap_nil, List.append_nil] at e
      exact ⟨hg _, by rw [e]; exact fin⟩
    | cons x ys ih =>
      intro acc hm hz e
      rw [lcE]
      refine ⟨hg _, step x (hm x (by simp)) acc _ _ (fun y hy => ?_) fun hy => ?_⟩
      · rw [aV]
        simp only [List.length_cons] at hz
        refine ⟨by omega, ?_⟩
        rw [qd]
        refine ih _ (fun z hz' => hm z (List.mem_cons_of_mem _ hz')) (by simp; omega) ?_
        rw [List.filterMap_cons, hy] at e
        simpa using e
      · simp only [List.length_cons] at hz
        refine ih _ (fun z hz' => hm z (List.mem_cons_of_mem _ hz')) (by omega) ?_
        rw [List.filterMap_cons, hy] at e
        exact e
  exact key xs [] (fun _ h => h) (by simp) (by simp)
theorem lc_map {g : EH → Prop} {p : Pat} {te : LT} {env : En} {P : EK} {h : EH} (f : EV → EV) (xs : List EV) (hl : xs.length ≤ sizeLine) (hg : ∀ acc, g (h ++ [.lst acc]))
    (step : ∀ x ∈ xs, ∀ acc (ky : EK), ky (f x) (h ++ [.lst acc]) → ie (h ++ [.lst acc]) p x env fun env2 => te env2 (h ++ [.lst acc]) ky)
    (fin : P (.ref h.length) (h ++ [.lst (xs.map f)])) : lcE g p mY te h.length env P xs (h ++ [.lst []]) := by
  refine lc_plain (fun x => some (f x)) xs hl hg (fun x hx acc ky kn hy _ => ?_) (by rw [List.filterMap_eq_map']; exact fin)
  have q := step x hx acc ky (hy _ rfl)
  unfold ie at q ⊢
  split at q
  · rename_i e
    exact q
  · exact q
def aD (b : Nat → Prop) (h h' : EH) : Prop := h.length ≤ h'.length ∧ ∀ r o, h[r]? = some o → ¬ b r → h'[r]? = some o
theorem aD.refl {b : Nat → Prop} {h : EH} : aD b h h := ⟨Nat.le_refl _, fun _ _ e _ => e⟩
theorem aD.trans {b : Nat → Prop} {h h' h2 : EH} (x : aD b h h') (y : aD b h' h2) : aD b h h2 := ⟨Nat.le_trans x.1 y.1, fun r o e n => y.2 r o (x.2 r o e n) n⟩
theorem aD.app {b : Nat → Prop} {h : EH} (g : EH) : aD b h (h ++ g) := ⟨by simp, fun r o e _ => by rw [List.getElem?_append_left (List.getElem?_eq_some_iff.mp e).1]; exact e⟩
theorem aD.set {b : Nat → Prop} {h : EH} {r : Nat} {o : EO} (hb : b r) : aD b h (h.set r o) := ⟨by simp, fun q u e n => by
  rw [List.getElem?_set_ne (fun z => n (by rw [← z]; exact hb))]; exact e⟩
theorem aD.fresh {b : Nat → Prop} {h h' : EH} {r : Nat} {o : EO} (x : aD b h h') (hr : h.length ≤ r) : aD b h (h'.set r o) := ⟨by simpa using x.1, fun q u e n => by
  have hq := (List.getElem?_eq_some_iff.mp e).1
  rw [List.getElem?_set_ne (by omega)]; exact x.2 q u e n⟩
theorem aD.weak {b c : Nat → Prop} {h h' : EH} (x : aD b h h') (w : ∀ r, b r → c r) : aD c h h' := ⟨x.1, fun r o e n => x.2 r o e fun z => n (w r z)⟩
def no1 : Nat → Prop := fun _ => False
theorem aD.all {c : Nat → Prop} {h h' : EH} (x : aD no1 h h') : aD c h h' := x.weak fun _ z => z.elim
theorem aD.at {h h' : EH} {r : Nat} {o : EO} (x : aD no1 h h') (e : h[r]? = some o) : h'[r]? = some o := x.2 r o e fun z => z
theorem gK {h : EH} {r : Nat} {o : EO} (e : h[r]? = some o) : r < h.length := (List.getElem?_eq_some_iff.mp e).1
theorem dG {h : EH} {r : Nat} {o : EO} (e : h[r]? = some o) (g : EH) : (h ++ g)[r]? = some o := by rw [List.getElem?_append_left (gK e)]; exact e
def DS (h : EH) (n k : Nat) (v : EV) (d : PyData) : Prop := Dat h n v d ∧ d.showable = true ∧ d.leavesShort 13 = true ∧ d.weight ≤ k
def DSs (h : EH) (n k : Nat) (vs : List EV) (ds : List PyData) : Prop := lX h n vs ds ∧ PyData.showableAll ds = true ∧ PyData.leavesShortAll 13 ds = true ∧ PyData.weightAll ds ≤ k
section
variable {h : EH} {n k j : Nat}
theorem DS.bl {b : Bool} : DS h n k (.bl b) (.bool b) := ⟨.bl b, by simp [PyData.showable], by simp [PyData.leavesShort], by simp [PyData.weight]⟩
theorem log_le {a k : Nat} (h : a < 2 ^ k) (h0 : 0 < k) : a.log2 < k := by
  by_cases z : a = 0
  · subst z; simpa using h0
  · exact (Nat.log2_lt z).mpr h
theorem DS.int {i : Int} (hi : i.natAbs < 10 ^ 12) (hk : 41 ≤ k) : DS h n k (.int i) (.int i) := by
  have l : i.natAbs.log2 < 40 := log_le (Nat.lt_trans hi (by decide)) (by decide)
  refine ⟨.int i, ?_, ?_, ?_⟩
  · rw [PyData.showable.eq_4]
    exact decide_eq_true (by omega)
  · simp only [PyData.leavesShort]
    exact decide_eq_true (PyData.shown_int_le hi)
  · simp only [PyData.weight]
    split <;> omega
theorem DS.str {s : List Nat} (hs : ∀ c ∈ s, c < 16 ^ 8) (hk : s.length ≤ k) : DS h n k (.str s) (.str (S s)) := by
  refine ⟨.str s, by rw [PyData.showable.eq_3], ?_, ?_⟩
  · simp only [PyData.leavesShort, List.all_eq_true, decide_eq_true_eq]
    exact fun c hc => hs c (by simpa using hc)
  · simp only [PyData.weight]
    simpa using hk
theorem DSs.nil : DSs h n k [] [] := ⟨.nil, by simp [PyData.showableAll], by simp [PyData.leavesShortAll], by simp [PyData.weightAll]⟩
theorem DSs.cons {x : EV} {xs : List EV} {d : PyData} {ds : List PyData} {a b : Nat} (hx : DS h n a x d) (hs : DSs h n b xs ds) : DSs h n (a + 1 + b) (x :: xs) (d :: ds) := by
  refine ⟨.cons hx.1 hs.1, ?_, ?_, ?_⟩
  · simp only [PyData.showableAll, hx.2.1, hs.2.1, Bool.and_self]
  · simp only [PyData.leavesShortAll, hx.2.2.1, hs.2.2.1, Bool.and_self]
  · simp only [PyData.weightAll]
    have := hx.2.2.2
    have := hs.2.2.2
    omega
theorem DS.lst {r : Nat} {xs : List EV} {ds : List PyData} (e : h[r]? = some (.lst xs)) (hs : DSs h n k xs ds) : DS h (n + 1) k (.ref r) (.list ds) := by
  refine ⟨.lst e hs.1, ?_, ?_, ?_⟩
  · simpa only [PyData.showable] using hs.2.1
  · simpa only [PyData.leavesShort] using hs.2.2.1
  · simpa only [PyData.weight] using hs.2.2.2
theorem DS.more {v : EV} {d : PyData} (x : DS h n k v d) (hk : k ≤ j) : DS h n j v d := ⟨x.1, x.2.1, x.2.2.1, Nat.le_trans x.2.2.2 hk⟩
theorem DSs.more {v : List EV} {d : List PyData} (x : DSs h n k v d) (hk : k ≤ j) : DSs h n j v d := ⟨x.1, x.2.1, x.2.2.1, Nat.le_trans x.2.2.2 hk⟩
theorem DS.fits {v : EV} {d : PyData} (x : DS h n k v d) (hk : k ≤ 2 ^ 20) : d.showable = true ∧ d.shown.length ≤ sizeLine := ⟨x.2.1, PyData.shown_fits (by decide) (by decide) x.2.2.1 (Nat.le_trans x.2.2.2 hk)⟩
end
mutual
def pd : EV → PyData
  | .int i => .int i
  | .bl b => .bool b
  | .str s => .str (S s)
  | .tup xs => .tuple (pds xs)
  | _ => .none
def pds : List EV → List PyData
  | [] => []
  | x :: xs => pd x :: pds xs
end
theorem eqE_same {h : EH} {v w : EV} {d : PyData} {P : EK} (a : Dat h 60 v d) (b : Dat h 60 w d) (p : P (.bl true) h) : eqE false v w h P := by
  have fin : ∃ d e, Dat h 60 v d ∧ Dat h 60 w e ∧ P (.bl (false ^^ PyData.eqv d e)) h := ⟨d, d, a, b, by
    rw [PySem.SeqAt.eqv_refl_plain d (Dat.dep d 60 v a).2]; exact p⟩
  cases a <;> cases b <;> first | exact fin | (unfold eqE; simpa using p)
theorem aN : sizeLine = 16777216 := by decide
theorem at0 {α : Type} {x : α} {xs : List α} : atI (x :: xs) 0 = some x := by
  have := L2.atI_nat (xs := x :: xs) (j := 0) (v := x) rfl
  simpa using this
theorem at1 {α : Type} {x y : α} {xs : List α} : atI (x :: y :: xs) 1 = some y := by
  have := L2.atI_nat (xs := x :: y :: xs) (j := 1) (v := y) rfl
  simpa using this
theorem at2 {α : Type} {x y z : α} {xs : List α} : atI (x :: y :: z :: xs) 2 = some z := by
  have := L2.atI_nat (xs := x :: y :: z :: xs) (j := 2) (v := z) rfl
  simpa using this
theorem at3 {α : Type} {x y z u : α} {xs : List α} : atI (x :: y :: z :: u :: xs) 3 = some u := by
  have := L2.atI_nat (xs := x :: y :: z :: u :: xs) (j := 3) (v := u) rfl
  simpa using this
theorem set_at {h : EH} {b : Nat} {o u : EO} (e : h[b]? = some u) : (h.set b o)[b]? = some o := List.getElem?_set_self (gK e)
theorem oh {h : EH} {b c : Nat} {o u : EO} (e : h[c]? = some u) (n : c ≠ b) : (h.set b o)[c]? = some u := by rw [List.getElem?_set_ne (fun z => n z.symm)]; exact e
section
variable {h : EH} {P : EK} {r l b c : Nat} {xs ys : List EV} {i j : Int} {v w x : EV}
theorem ix_l (e : h[r]? = some (.lst xs)) (a : atI xs i = some x) (p : P x h) : ixE (.ref r) (.int i) h P := by
  unfold ixE; simp only [e, a]; exact p
theorem ix_t (a : atI xs i = some x) (p : P x h) : ixE (.tup xs) (.int i) h P := by
  unfold ixE; simp only [a]; exact p
theorem sl_l {lo hi : Option Int} (e : h[r]? = some (.lst xs)) (p : P (.ref h.length) (h ++ [.lst (cut xs lo hi)])) : slE (.ref r) lo hi h P := by
  unfold slE; simp only [e]; exact p
theorem add_l (e : h[l]? = some (.lst xs)) (e2 : h[r]? = some (.lst ys)) (hl : xs.length + ys.length ≤ sizeLine) (p : P (.ref h.length) (h ++ [.lst (xs ++ ys)])) : bG (.ref l) (.ref r) h P := by
  unfold bG; simp only [e, e2]; exact ⟨hl, p⟩
theorem add_s {s t : List Nat} (hl : s.length + t.length ≤ sizeLine) (p : P (.str (s ++ t)) h) : bG (.str s) (.str t) h P := ⟨hl, p⟩
theorem set_l {k : Nat} {p : EH → Prop} (e : h[b]? = some (.lst xs)) (a : ixN xs.length i = some k) (q : p (h.set b (.lst (xs.set k v)))) : setE (.ref b) (.int i) v h p := by
  unfold setE; simp only [e, a]; exact q
theorem get_l {p : EV → Prop} (e : h[b]? = some (.lst xs)) (h0 : 0 ≤ i) (a : xs[i.toNat]? = some x) (q : p x) : getE (.ref b) (.int i) h p := by
  unfold getE; simp only [e, a]; exact ⟨h0, q⟩
theorem mul_i (c : IntMulOk i j) (p : P (.int (i * j)) h) : iK (.int i) (.int j) h P := ⟨c, p⟩
theorem mul_s {s : List Nat} (c : 0 < j ∧ j < 2 ^ 24 ∧ s.length * j.toNat ≤ 1000000) (p : P (.str (repN j s)) h) : iK (.str s) (.int j) h P := ⟨c, p⟩
theorem mod_i (c : 0 < j) (p : P (.int (i % j)) h) : modE (.int i) (.int j) h P := ⟨c, p⟩
theorem div_i (c : 0 < j) (c2 : j < 2 ^ 64) (p : P (.int (i / j)) h) : fdivE (.int i) (.int j) h P := ⟨⟨c, by
  have := log_le (a := j.natAbs) (k := 64) (by omega) (by decide)
  omega⟩, p⟩
theorem pow_i (c : CPow i j) (p : P (.int (i ^ j.toNat)) h) : powE (.int i) (.int j) h P := ⟨c, p⟩
theorem int_i (p : P (.int i) h) : intOf [.int i] h P := p
theorem int_b {q : Bool} (p : P (.int (if q then 1 else 0)) h) : intOf [.bl q] h P := p
theorem lt_i (p : P (.bl (decide (i < j))) h) : ltE (.int i) (.int j) h P := p
theorem le_i (p : P (.bl (decide (i ≤ j))) h) : leE (.int i) (.int j) h P := p
theorem ge_i (p : P (.bl (decide (j ≤ i))) h) : geE (.int i) (.int j) h P := p
theorem sub_i (p : P (.int (i - j)) h) : subE (.int i) (.int j) h P := p
theorem pD (p : P (.int (i + j)) h) : bG (.int i) (.int j) h P := p
theorem eq_i {n : Bool} (p : P (.bl (n ^^ decide (i = j))) h) : eqE n (.int i) (.int j) h P := p
theorem eq_s {n : Bool} {s t : List Nat} (p : P (.bl (n ^^ decide (s = t))) h) : eqE n (.str s) (.str t) h P := p
theorem mulOk_r (hj : j.natAbs < 2 ^ 64) : IntMulOk i j := (show CMul i j from .inr (by omega)).ok
theorem mulOk_l (hi : i.natAbs < 2 ^ 64) : IntMulOk i j := (show CMul i j from .inl (by omega)).ok
theorem ins_e (e : h[r]? = some (.lst xs)) (hl : xs.length < sizeLine) (h0 : 0 ≤ i) (h1 : i < 2 ^ 63) (p : P .non (h.set r (.lst (xs.take i.toNat ++ [v] ++ xs.drop i.toNat)))) : insertE (.ref r) [.int i, v] h P := by
  unfold insertE onList; simp only [e]; exact ⟨hl, h0, h1, p⟩
theorem len_l (e : h[r]? = some (.lst xs)) (p : P (.int xs.length) h) : gJ [.ref r] h P := by
  unfold gJ; simp only [e]; exact p
end
theorem cut_to {α : Type} (xs : List α) (k : Nat) : cut xs none (some (k : Int)) = xs.take k := by
  unfold cut
  rw [HT.sIx_none, HT.sIx_nat]
  simp only [List.drop_zero, Nat.sub_zero]
  by_cases q : k ≤ xs.length
  · rw [Nat.min_eq_left q]
  · rw [Nat.min_eq_right (by omega), List.take_of_length_le (Nat.le_refl _), List.take_of_length_le (by omega)]
theorem oZ {α : Type} (xs : List α) (k : Nat) : cut xs (some (k : Int)) none = xs.drop k := by
  unfold cut
  rw [HT.sIx_none, HT.sIx_nat]
  by_cases q : k ≤ xs.length
  · rw [Nat.min_eq_left q, List.take_of_length_le (by simp)]
  · rw [Nat.min_eq_right (by omega), List.take_of_length_le (by simp), List.drop_of_length_le (Nat.le_refl _), List.drop_of_length_le (by omega)]
mutual
/-- nested at most n deep, so at most j -/
theorem Dat.deep' {h : EH} : ∀ (d : PyData) (n j : Nat) (v : EV), n ≤ j → Dat h n v d → Dat h j v d
  | .none, n, j, v, l, a => by cases a; exact .non
  | .bool _, n, j, v, l, a => by cases a; exact .bl _
  | .int _, n, j, v, l, a => by cases a; exact .int _
  | .str _, n, j, v, l, a => by cases a; exact .str _
  | .dict _, n, j, v, l, a => by cases a
  | .tuple ds, n, j, v, l, a => by
    cases a with
    | tup r =>
      cases j with
      | zero => omega
      | succ j => exact .tup (lX.deep' ds _ j _ (by omega) r)
    | ktup r =>
      cases j with
      | zero => omega
      | succ j => exact .ktup (lX.deep' ds _ j _ (by omega) r)
  | .list ds, n, j, v, l, a => by
    cases a with
    | lst e r =>
      cases j with
      | zero => omega
      | succ j => exact .lst e (lX.deep' ds _ j _ (by omega) r)
theorem lX.deep' {h : EH} : ∀ (ds : List PyData) (n j : Nat) (vs : List EV), n ≤ j → lX h n vs ds → lX h j vs ds
  | [], n, j, vs, l, a => by cases a; exact .nil
  | d :: ds, n, j, vs, l, a => by
    cases a with
    | cons a b => exact .cons (Dat.deep' d n j _ l a) (lX.deep' ds n j _ l b)
end
theorem Dat.deep {h : EH} {d : PyData} {n j : Nat} {v : EV} (a : Dat h n v d) (l : n ≤ j) : Dat h j v d := Dat.deep' d n j v l a
theorem iD {h : EH} {i : Nat} {v : EV} {env : En} {P : En → Prop} (p : P (env.set i (some v))) : ie h (.nm i) v env P := p
end Y
namespace Y
open PySem PySem.Spec PyProof.Rows L2
def kEq : EV → EV → Bool
  | .int i, .int j => decide (i = j)
  | .str a, .str b => decide (a = b)
  | _, _ => false
def isKey : EV → Prop
  | .int _ => True
  | .str _ => True
  | _ => False
def dGet (kvs : List (EV × EV)) (k : EV) : Option EV := match kvs with
  | [] => none
  | (a, x) :: r => if kEq a k = true then some x else dGet r k
def dHas (kvs : List (EV × EV)) (k : EV) : Bool := (dGet kvs k).isSome
def dRep (kvs : List (EV × EV)) (k v : EV) : List (EV × EV) := kvs.map fun p => if kEq p.1 k = true then (p.1, v) else p
def dPut (kvs : List (EV × EV)) (k v : EV) : List (EV × EV) := if dHas kvs k = true then dRep kvs k v else kvs ++ [(k, v)]
section
variable {K : PySem.W.Frag} {m : Nat → Addr} {n : Nat} {H : Hp}
theorem key_of {k : EV} {y : V} (hk : isKey k) (r : az K m n H k y) : ∃ k' : L2.Key, y = kV k' := by
  cases k with
  | int i => rw [az] at r; exact ⟨.inl i, r⟩
  | str s => rw [az] at r; exact ⟨.inr (S s), r⟩
  | _ => exact hk.elim
theorem kEq_dec {a k : EV} {x y : L2.Key} (ra : az K m n H a (kV x)) (rk : az K m n H k (kV y)) (hk : isKey k) : kEq a k = decide (x = y) := by
  have no : ∀ {b : Bool} {z : L2.Key}, kV z ≠ V.bl b := fun {b z} => by cases z <;> simp [kV]
  cases k with
  | int j =>
    rw [az] at rk
    cases y with
    | inl j' =>
      have : j' = j := by injection rk
      subst this
      cases a with
      | int i =>
        rw [az] at ra
        cases x with
        | inl i' =>
          have : i' = i := by injection ra
          subst this
          simp [kEq]
        | inr s => cases ra
      | str s =>
        rw [az] at ra
        cases x with
        | inl i' => cases ra
        | inr s' => simp [kEq]
      | non => rw [az] at ra; cases x <;> cases ra
      | bl b => rw [az] at ra; exact absurd ra no
      | tup xs => rw [az] at ra; obtain ⟨_, _, e, _⟩ := ra; cases x <;> cases e
      | ktup xs => rw [az] at ra; obtain ⟨_, _, e, _⟩ := ra; cases x <;> cases e
      | ref r => rw [az] at ra; cases x <;> cases ra.2
      | adr r => rw [az] at ra; cases x <;> cases ra
      | ty r => rw [az] at ra; cases x <;> cases ra
    | inr s => cases rk
  | str t =>
    rw [az] at rk
    cases y with
    | inl j' => cases rk
    | inr t' =>
      have : t' = S t := by injection rk
      subst this
      cases a with
      | int i =>
        rw [az] at ra
        cases x with
        | inl i' => simp [kEq]
        | inr s => cases ra
      | str s =>
        rw [az] at ra
        cases x with
        | inl i' => cases ra
        | inr s' =>
          have : s' = S s := by injection ra
          subst this
          simp only [kEq, Sum.inr.injEq, S_inj]
      | non => rw [az] at ra; cases x <;> cases ra
      | bl b => rw [az] at ra; exact absurd ra no
      | tup xs => rw [az] at ra; obtain ⟨_, _, e, _⟩ := ra; cases x <;> cases e
      | ktup xs => rw [az] at ra; obtain ⟨_, _, e, _⟩ := ra; cases x <;> cases e
      | ref r => rw [az] at ra; cases x <;> cases ra.2
      | adr r => rw [az] at ra; cases x <;> cases ra
      | ty r => rw [az] at ra; cases x <;> cases ra
  | _ => exact hk.elim
theorem bj.get {k : EV} {y : L2.Key} (rk : az K m n H k (kV y)) (hk : isKey k) : ∀ {es : List (EV × EV)} {l : List (L2.Key × V)}, bj K m n H es l →
    (∀ x, dGet es k = some x → ∃ v, valV l y = some v ∧ az K m n H x v) ∧ (dGet es k = none → valV l y = none)
  | [], l, r => by
    rw [bj] at r
    subst r
    exact ⟨fun x e => by simp [dGet] at e, fun _ => rfl⟩
  | (a, x) :: es, l, r => by
    rw [bj] at r
    obtain ⟨a', v, l', rfl, ra, rx, r⟩ := r
    have e := kEq_dec ra rk hk
    have ih := bj.get rk hk r
    unfold dGet
    rw [e]
    by_cases q : a' = y
    · rw [decide_eq_true q, if_pos rfl, valV_pos (p := (a', v)) q]
      exact ⟨fun z ez => by cases ez; exact ⟨v, rfl, rx⟩, fun ez => by cases ez⟩
    · rw [decide_eq_false q, if_neg Bool.false_ne_true, valV_neg (p := (a', v)) q]
      exact ih
theorem bj.has {k : EV} {y : L2.Key} {es : List (EV × EV)} {l : List (L2.Key × V)} (rk : az K m n H k (kV y)) (hk : isKey k) (r : bj K m n H es l) : (valV l y).isSome = dHas es k := by
  obtain ⟨h1, h2⟩ := bj.get rk hk r
  unfold dHas
  cases e : dGet es k with
  | none => rw [h2 e]; rfl
  | some x => obtain ⟨v, ev, _⟩ := h1 x e; rw [ev]; rfl
theorem bj.app {es fs : List (EV × EV)} {l l' : List (L2.Key × V)} (h : bj K m n H es l) (g : bj K m n H fs l') : bj K m n H (es ++ fs) (l ++ l') := by
  induction es generalizing l with
  | nil => rw [bj] at h; subst h; exact g
  | cons p es ih =>
    obtain ⟨a, x⟩ := p
    rw [bj] at h
    obtain ⟨a', v, l2, rfl, ra, rx, r⟩ := h
    rw [List.cons_append, List.cons_append, bj]
    exact ⟨a', v, _, rfl, ra, rx, ih r⟩
theorem bj.rep {k w : EV} {y : L2.Key} {z : V} (rk : az K m n H k (kV y)) (hk : isKey k) (rw' : az K m n H w z) : ∀ {es : List (EV × EV)} {l : List (L2.Key × V)}, bj K m n H es l →
    bj K m n H (dRep es k w) (l.map fun kv => if kv.1 = y then (kv.1, z) else kv)
  | [], l, r => by rw [bj] at r; subst r; exact rfl
  | (a, x) :: es, l, r => by
    rw [bj] at r
    obtain ⟨a', v, l', rfl, ra, rx, r⟩ := r
    have e := kEq_dec ra rk hk
    have ih := bj.rep rk hk rw' r
    unfold dRep at ih ⊢
    rw [List.map_cons, List.map_cons]
    simp only [e]
    by_cases q : a' = y
    · rw [decide_eq_true q, if_pos rfl, if_pos q, bj]
      exact ⟨a', z, _, rfl, ra, rw', ih⟩
    · rw [decide_eq_false q, if_neg Bool.false_ne_true, if_neg q, bj]
      exact ⟨a', v, _, rfl, ra, rx, ih⟩
theorem bj.put {k w : EV} {y : L2.Key} {z : V} {es : List (EV × EV)} {l : List (L2.Key × V)} (rk : az K m n H k (kV y)) (hk : isKey k) (rw' : az K m n H w z) (r : bj K m n H es l) : bj K m n H (dPut es k w) (putK l y z) := by
  unfold dPut putK
  rw [valV_any, bj.has rk hk r]
  split
  · exact bj.rep rk hk rw' r
  · exact r.app (by rw [bj]; exact ⟨y, z, [], rfl, rk, rw', rfl⟩)
end
def isKeyT (v : EV) : Prop := (keyL v).isSome = true
def dGetT (kvs : List (EV × EV)) (k : EV) : Option EV := match kvs with
  | [] => none
  | (a, x) :: r => if keyL a = keyL k then some x else dGetT r k
def dHasT (kvs : List (EV × EV)) (k : EV) : Bool := (dGetT kvs k).isSome
def dRepT (kvs : List (EV × EV)) (k v : EV) : List (EV × EV) := kvs.map fun p => if keyL p.1 = keyL k then (p.1, v) else p
def dPutT (kvs : List (EV × EV)) (k v : EV) : List (EV × EV) := if dHasT kvs k = true then dRepT kvs k v else kvs ++ [(k, v)]
section
variable {K : PySem.W.Frag} {m : Nat → Addr} {n : Nat} {H : Hp}
theorem keysL_rel : ∀ {ks : List EV} {k' : List L2.Key} {vs : List V}, keysL ks = some k' → aC K m n H ks vs → vs = k'.map kV
  | [], k', vs, e, r => by
    rw [keysL] at e; cases e
    rw [aC] at r; exact r
  | x :: ks, k', vs, e, r => by
    rw [aC] at r
    obtain ⟨v, l, rfl, a, b⟩ := r
    cases x with
    | int i =>
      rw [keysL] at e
      obtain ⟨q, hq, rfl⟩ := Option.map_eq_some_iff.mp e
      rw [az] at a
      rw [a, keysL_rel hq b]; rfl
    | str s =>
      rw [keysL] at e
      obtain ⟨q, hq, rfl⟩ := Option.map_eq_some_iff.mp e
      rw [az] at a
      rw [a, keysL_rel hq b]; rfl
    | _ => simp [keysL] at e
theorem keyT_of {k : EV} {y : V} (hk : isKeyT k) (r : az K m n H k y) : ∃ k' b, keyL k = some k' ∧ y = .ref b ∧ H b = some (.tup (k'.map kV)) := by
  obtain ⟨k', e⟩ := Option.isSome_iff_exists.mp hk
  cases k with
  | tup ks =>
    rw [az] at r
    obtain ⟨a, vs, rfl, h, r⟩ := r
    exact ⟨k', a, e, rfl, by rw [← keysL_rel e r]; exact h⟩
  | _ => simp [keyL] at e
theorem bY.get {k : EV} {y : List L2.Key} (hk : keyL k = some y) : ∀ {es : List (EV × EV)} {l : List (List L2.Key × V)}, bY K m n H es l →
    (∀ x, dGetT es k = some x → ∃ v, valV l y = some v ∧ az K m n H x v) ∧ (dGetT es k = none → valV l y = none)
  | [], l, r => by
    rw [bY] at r
    subst r
    exact ⟨fun x e => by simp [dGetT] at e, fun _ => rfl⟩
  | (a, x) :: es, l, r => by
    rw [bY] at r
    obtain ⟨a', v, l', rfl, ra, rx, r⟩ := r
    have ih := bY.get hk r
    unfold dGetT
    rw [ra, hk]
    by_cases q : a' = y
    · rw [if_pos (by rw [q]), valV_pos (p := (a', v)) q]
      exact ⟨fun z ez => by cases ez; exact ⟨v, rfl, rx⟩, fun ez => by cases ez⟩
    · rw [if_neg (fun z => q (Option.some.inj z)), valV_neg (p := (a', v)) q]
      exact ih
theorem bY.has {k : EV} {y : List L2.Key} {es : List (EV × EV)} {l : List (List L2.Key × V)} (hk : keyL k = some y) (r : bY K m n H es l) : (valV l y).isSome = dHasT es k := by
  obtain ⟨h1, h2⟩ := bY.get hk r
  unfold dHasT
  cases e : dGetT es k with
  | none => rw [h2 e]; rfl
  | some x => obtain ⟨v, ev, _⟩ := h1 x e; rw [ev]; rfl
theorem bY.app {es fs : List (EV × EV)} {l l' : List (List L2.Key × V)} (h : bY K m n H es l) (g : bY K m n H fs l') : bY K m n H (es ++ fs) (l ++ l') := by
  induction es generalizing l with
  | nil => rw [bY] at h; subst h; exact g
  | cons p es ih =>
    obtain ⟨a, x⟩ := p
    rw [bY] at h
    obtain ⟨a', v, l2, rfl, ra, rx, r⟩ := h
    rw [List.cons_append, List.cons_append, bY]
    exact ⟨a', v, _, rfl, ra, rx, ih r⟩
theorem bY.rep {k w : EV} {y : List L2.Key} {z : V} (hk : keyL k = some y) (rw' : az K m n H w z) : ∀ {es : List (EV × EV)} {l : List (List L2.Key × V)}, bY K m n H es l →
    bY K m n H (dRepT es k w) (l.map fun kv => if kv.1 = y then (kv.1, z) else kv)
  | [], l, r => by rw [bY] at r; subst r; exact rfl
  | (a, x) :: es, l, r => by
    rw [bY] at r
    obtain ⟨a', v, l', rfl, ra, rx, r⟩ := r
    have ih := bY.rep hk rw' r
    unfold dRepT at ih ⊢
    rw [List.map_cons, List.map_cons]
    simp only [ra, hk]
    by_cases q : a' = y
    · rw [if_pos (by rw [q]), if_pos q, bY]
      exact ⟨a', z, _, rfl, ra, rw', by simpa only [hk] using ih⟩
    · rw [if_neg (fun z => q (Option.some.inj z)), if_neg q, bY]
      exact ⟨a', v, _, rfl, ra, rx, by simpa only [hk] using ih⟩
theorem bY.put {k w : EV} {y : List L2.Key} {z : V} {es : List (EV × EV)} {l : List (List L2.Key × V)} (hk : keyL k = some y) (rw' : az K m n H w z) (r : bY K m n H es l) : bY K m n H (dPutT es k w) (putK l y z) := by
  unfold dPutT putK
  rw [valV_any, bY.has hk r]
  split
  · exact bY.rep hk rw' r
  · exact r.app (by rw [bY]; exact ⟨y, z, [], rfl, hk, rw', rfl⟩)
theorem bY.length : ∀ {es : List (EV × EV)} {vs : List (List L2.Key × V)}, bY K m n H es vs → es.length = vs.length
  | [], _, r => by rw [bY] at r; subst r; rfl
  | _ :: _, _, r => by
    rw [bY] at r
    obtain ⟨k, v, l, rfl, _, _, r⟩ := r
    simp [bY.length r]
end
def dgE : LO := fun v w h P => match v with
  | .ref r => match h[r]? with
    | some (.dic kvs) => isKey w ∧ match dGet kvs w with
      | some x => P x h
      | none => False
    | some (.dct kvs) => isKeyT w ∧ match dGetT kvs w with
      | some x => P x h
      | none => False
    | _ => False
  | _ => False
def rDg : R2 := fun x y H Q => ∃ a v, x = .ref a ∧ DGet H a y (some v) ∧ Q v H
section
variable {X : Cx}
theorem ix_dg (hu : X.A.units + 1 < cLine) : IxR X rDg := by
  intro value slice pins s σ H x y v u Q I rx ry h hs
  obtain ⟨a, r, rfl, g, q⟩ := h
  obtain rfl : v = Value.ref a := rx
  exact tail_any (dict_typeIs I g) slot_dict_getitem.lookup (d_getItem hu I g ry fun w' s3 I3 rw' => ⟨r, H, I3, rw', q⟩) hs
theorem lop_dg : LOp X.K rDg dgE := by
  intro m h H v w x y P Q R rx ry q k
  unfold dgE at q
  split at q
  · rw [az] at rx
    obtain ⟨_, rfl⟩ := rx
    split at q
    · rename_i e
      obtain ⟨l, a, r⟩ := R.obj _ _ e
      obtain ⟨hk, q⟩ := q
      obtain ⟨k', rfl⟩ := key_of hk ry
      split at q
      · rename_i e2
        obtain ⟨z, ez, rz⟩ := (bj.get ry hk r).1 _ e2
        refine ⟨_, z, rfl, ?_, k.same R q rz⟩
        rw [← ez]
        exact DGet.k a
      · exact q.elim
    · rename_i e
      obtain ⟨l, a, r⟩ := R.obj _ _ e
      obtain ⟨hk, q⟩ := q
      obtain ⟨k', b, ek, rfl, hb⟩ := keyT_of hk ry
      split at q
      · rename_i e2
        obtain ⟨z, ez, rz⟩ := (bY.get ek r).1 _ e2
        refine ⟨_, z, rfl, ?_, k.same R q rz⟩
        rw [← ez]
        exact DGet.t a hb
      · exact q.elim
    · exact q.elim
  · exact q.elim
end
def ixA : LO := fun v w h P => match v with
  | .ref r => match h[r]? with
    | some (.dic _) => dgE v w h P
    | some (.dct _) => dgE v w h P
    | _ => ixE v w h P
  | _ => ixE v w h P
theorem ixA_or {v w : EV} {h : EH} {P : EK} (q : ixA v w h P) : dgE v w h P ∨ ixE v w h P := by
  unfold ixA at q
  split at q
  · split at q
    · exact .inl q
    · exact .inl q
    · exact .inr q
  · exact .inr q
theorem mD {X : Cx} (hu : X.A.units + 1 < cLine) : LIxR X ixA := by
  obtain ⟨r, h, s⟩ := lix (X := X)
  refine ⟨_, IxR.or (ix_dg hu) h, fun m h H v w x y P Q R rx ry q k => ?_⟩
  rcases ixA_or q with q | q
  · exact .inl (lop_dg m h H v w x y P Q R rx ry q k)
  · exact .inr (s m h H v w x y P Q R rx ry q k)
section
variable {h : EH} {P : EK} {r l b c : Nat} {xs ys : List EV} {i j : Int} {v w x : EV} {kvs : List (EV × EV)}
theorem ia_l (e : h[r]? = some (.lst xs)) (a : atI xs i = some x) (p : P x h) : ixA (.ref r) (.int i) h P := by
  unfold ixA; simp only [e]; exact ix_l e a p
theorem ia_t (a : atI xs i = some x) (p : P x h) : ixA (.tup xs) (.int i) h P := ix_t a p
theorem ia_d (e : h[r]? = some (.dic kvs)) (hk : isKey w) (a : dGet kvs w = some x) (p : P x h) : ixA (.ref r) w h P := by
  unfold ixA dgE; simp only [e, a]; exact ⟨hk, p⟩
end
def nq : EV → Bool
  | .non => true
  | .bl _ => true
  | .int _ => true
  | .str _ => true
  | _ => false
def eqF : EV → EV → Bool
  | .non, .non => true
  | .bl a, .bl b => decide (a = b)
  | .int i, .int j => decide (i = j)
  | .str a, .str b => decide (a = b)
  | .bl b, .int i => decide (i = if b then 1 else 0)
  | .int i, .bl b => decide (i = if b then 1 else 0)
  | _, _ => false
def inF (v : EV) (xs : List EV) : Bool := xs.any fun y => eqF y v
def toV : EV → V
  | .bl b => .bl b
  | .int i => .int i
  | .str s => .str (S s)
  | _ => .non
theorem flat_rel {K : PySem.W.Frag} {m : Nat → Addr} {n : Nat} {H : Hp} {v : EV} {x : V} (f : nq v = true) (r : az K m n H v x) : x = toV v := by
  cases v <;> first | (simp [nq] at f; done) | (rw [az] at r; exact r)
theorem toV_flat {v : EV} (f : nq v = true) : flatV (toV v) = true := by
  cases v <;> first | (simp [nq] at f; done) | rfl
theorem eqF_V {a b : EV} (fa : nq a = true) (fb : nq b = true) : eqV (toV a) (toV b) = eqF a b := by
  cases a <;> cases b <;> first
    | (simp [nq] at fa; done)
    | (simp [nq] at fb; done)
    | rfl
    | (simp only [toV, eqV, eqF]; exact beqD _ _)
    | (simp only [toV, eqV, eqF]; rw [beqD]; exact decide_eq_decide.mpr S_inj)
    | (simp only [toV, eqV, eqF]; rw [beqD]; exact decide_eq_decide.mpr eq_comm)
theorem flats_rel {K : PySem.W.Frag} {m : Nat → Addr} {n : Nat} {H : Hp} : ∀ {es : List EV} {vs : List V}, es.all nq = true → aC K m n H es vs → vs = es.map toV
  | [], vs, _, r => by rw [aC] at r; exact r
  | e :: es, vs, f, r => by
    rw [aC] at r
    obtain ⟨v, l, rfl, a, b⟩ := r
    simp only [List.all_cons, Bool.and_eq_true] at f
    rw [flat_rel f.1 a, flats_rel f.2 b]; rfl
theorem inF_V {v : EV} {xs : List EV} (fv : nq v = true) (fs : xs.all nq = true) : inV (toV v) (xs.map toV) = inF v xs := by
  unfold inV inF
  induction xs with
  | nil => rfl
  | cons x xs ih =>
    simp only [List.all_cons, Bool.and_eq_true] at fs
    rw [List.map_cons, List.any_cons, List.any_cons, ih fs.2, eqF_V fs.1 fv]
def inSq (neg : Bool) (v : EV) (xs : List EV) (P : EV → Prop) : Prop := nq v = true ∧ xs.all nq = true ∧ P (.bl (neg ^^ inF v xs))
def inA (neg : Bool) : LO := fun v w h P => match w with
  | .tup xs => inSq neg v xs fun b => P b h
  | .ktup xs => inSq neg v xs fun b => P b h
  | .str z => match v with
    | .str [c] => P (.bl (neg ^^ decide (c ∈ z))) h
    | _ => False
  | .ref r => match h[r]? with
    | some (.dic kvs) => isKey v ∧ P (.bl (neg ^^ dHas kvs v)) h
    | some (.dct kvs) => isKeyT v ∧ P (.bl (neg ^^ dHasT kvs v)) h
    | some (.lst xs) => (inSq neg v xs fun b => P b h) ∨ ∃ d ds, Dat h 60 v d ∧ lX h 59 xs ds ∧ PySem.SeqAt.shaped d = true ∧ PySem.SeqAt.shaped (.list ds) = true ∧ P (.bl (neg ^^ ds.any fun z => PyData.eqv z d)) h
    | some (.frz xs) => inSq neg v xs fun b => P b h
    | _ => False
  | _ => False
def rInDic (neg : Bool) : R2 := fun y x H Q => ∃ a o, x = .ref a ∧ DGet H a y o ∧ Q (.bl (neg ^^ o.isSome)) H
section
variable {X : Cx}
theorem inA_sim {neg : Bool} {m : Nat → Addr} {h : EH} {H : Hp} {v w : EV} {x y : V} {P : EK} {Q : VK} (R : cJ X.K m h H) (rx : az X.K m h.length H v x) (ry : az X.K m h.length H w y) (q : inA neg v w h P) (k : Kon X.K m h.length H P Q) :
    rInDic neg x y H Q ∨ (∃ p xs, y = .ref p ∧ (SqL X.K H p xs ∨ SqT X.K H p xs) ∧ flatV x = true ∧ xs.all flatV = true ∧ Q (.bl (neg ^^ inV x xs)) H) ∨
      (∃ d ds, Dp X.K H x d ∧ Dp X.K H y (.list ds) ∧ PySem.SeqAt.shaped d = true ∧ PySem.SeqAt.shaped (.list ds) = true ∧ Q (.bl (neg ^^ ds.any fun z => PyData.eqv z d)) H) ∨
      ∃ (c : Nat) (z : Str), x = .str ⟨#[c]⟩ ∧ y = .str z ∧ Q (.bl (neg ^^ decide (c ∈ z.cps.toList))) H := by
  have seq : ∀ {p : Addr} {xs : List EV} {vs : List V}, y = .ref p → (SqL X.K H p vs ∨ SqT X.K H p vs) → aC X.K m h.length H xs vs → (inSq neg v xs fun b => P b h) →
      ∃ p xs, y = .ref p ∧ (SqL X.K H p xs ∨ SqT X.K H p xs) ∧ flatV x = true ∧ xs.all flatV = true ∧ Q (.bl (neg ^^ inV x xs)) H := by
    intro p xs vs ey hs r ⟨f1, f2, q⟩
    have e1 := flat_rel f1 rx
    have e2 := flats_rel f2 r
    subst e1 e2
    refine ⟨p, _, ey, hs, toV_flat f1, ?_, by rw [inF_V f1 f2]; exact k.same R q (by rw [az])⟩
    rw [List.all_map]
    rw [List.all_eq_true] at f2 ⊢
    exact fun z hz => toV_flat (f2 z hz)
  unfold inA at q
  split at q
  · rw [az] at ry
    obtain ⟨a, vs, rfl, hs, r⟩ := ry
    exact .inr (.inl (seq rfl (.inr (SqT.of hs)) r q))
  · rw [az] at ry
    obtain ⟨a, vs, rfl, hs, r⟩ := ry
    exact .inr (.inl (seq rfl (.inr hs) r q))
  · split at q
    · rw [az] at rx ry
      refine .inr (.inr (.inr ⟨_, _, rx, ry, ?_⟩))
      have := k.same R q (by rw [az])
      simpa using this
    · exact q.elim
  · have ry0 := ry
    rw [az] at ry
    obtain ⟨_, rfl⟩ := ry
    split at q
    · rename_i e
      obtain ⟨l, a, r⟩ := R.obj _ _ e
      obtain ⟨hk, q⟩ := q
      obtain ⟨k', rfl⟩ := key_of hk rx
      refine .inl ⟨_, _, rfl, DGet.k a, ?_⟩
      rw [bj.has rx hk r]
      exact k.same R q (by rw [az])
    · rename_i e
      obtain ⟨l, a, r⟩ := R.obj _ _ e
      obtain ⟨hk, q⟩ := q
      obtain ⟨k', b, ek, rfl, hb⟩ := keyT_of hk rx
      refine .inl ⟨_, _, rfl, DGet.t a hb, ?_⟩
      rw [bY.has ek r]
      exact k.same R q (by rw [az])
    · rename_i e
      obtain ⟨vs, a, r⟩ := R.obj _ _ e
      rcases q with q | ⟨d, ds, d1, d2, s1, s2, q⟩
      · exact .inr (.inl (seq rfl (.inl (SqL.of a)) r q))
      · exact .inr (.inr (.inl ⟨d, ds, Dat.dp R _ _ _ _ d1 rx, Dat.dp R (.list ds) 60 _ _ (.lst e d2) ry0, s1, s2, k.same R q (by rw [az])⟩))
    · rename_i e
      obtain ⟨vs, a, r⟩ := R.obj _ _ e
      exact .inr (.inl (seq rfl (.inl a.sql) r q))
    · exact q.elim
  · exact q.elim
theorem lo_in (hu : X.A.units + 65 < cLine) : o7 X (compareOp .In) (inA false) := by
  have od : OpR X (compareOp .In) (rInDic false) := by
    intro pins s σ H x y v u Q I rx ry ⟨a, o, ey, g, q⟩
    subst ey
    obtain rfl : u = Value.ref a := ry
    exact d_in (by omega) I g rx fun s3 I3 => ⟨.bl o.isSome, H, I3, rfl, by simpa using q⟩
  refine ⟨_, OpR.or od (OpR.or op_in_seq (OpR.or (op_inD hu) op_in_sign)), fun m h H v w x y P Q R rx ry q k => ?_⟩
  rcases inA_sim R rx ry q k with q | ⟨p, xs, e, a, b, c, q⟩ | ⟨d, ds, a, b, c, e, q⟩ | ⟨c, z, e1, e2, q⟩
  · exact .inl q
  · exact .inr (.inl ⟨p, xs, e, a, b, c, by simpa using q⟩)
  · exact .inr (.inr (.inl ⟨d, ds, a, b, c, e, by simpa using q⟩))
  · exact .inr (.inr (.inr ⟨c, z, e1, e2, by simpa using q⟩))
theorem lo_nin (hu : X.A.units + 65 < cLine) : o7 X (compareOp .NotIn) (inA true) := by
  have od : OpR X (compareOp .NotIn) (rInDic true) := by
    intro pins s σ H x y v u Q I rx ry ⟨a, o, ey, g, q⟩
    subst ey
    obtain rfl : u = Value.ref a := ry
    exact d_notIn (by omega) I g rx fun s3 I3 => ⟨.bl (!o.isSome), H, I3, rfl, by simpa using q⟩
  refine ⟨_, OpR.or od (OpR.or op_notIn_seq (OpR.or (op_notInD hu) op_notIn_sign)), fun m h H v w x y P Q R rx ry q k => ?_⟩
  rcases inA_sim R rx ry q k with q | ⟨p, xs, e, a, b, c, q⟩ | ⟨d, ds, a, b, c, e, q⟩ | ⟨c, z, e1, e2, q⟩
  · exact .inl q
  · exact .inr (.inl ⟨p, xs, e, a, b, c, by simpa using q⟩)
  · exact .inr (.inr (.inl ⟨d, ds, a, b, c, e, by simpa using q⟩))
  · exact .inr (.inr (.inr ⟨c, z, e1, e2, by simpa using q⟩))
end
def lDnew : LT := fun _ h P => P (.ref h.length) (h ++ [.dic []])
def setA (o i v : EV) (h : EH) (P : EH → Prop) : Prop := match o with
  | .ref r => match h[r]? with
    | some (.dic kvs) => isKey i ∧ kvs.length < sizeLine ∧ P (h.set r (.dic (dPut kvs i v)))
    | some (.dct kvs) => isKeyT i ∧ kvs.length < sizeLine ∧ P (h.set r (.dct (dPutT kvs i v)))
    | _ => setE o i v h P
  | _ => setE o i v h P
def rSetA : TSet := fun x y z H Q => rSetL x y z H Q ∨ ∃ a H4, x = .ref a ∧ DPut H a y z H4 ∧ Q H4
section
variable {X : Cx} {pos : Pos}
theorem le_dnew : LE X (.Dict [] [] pos) lDnew := by
  refine ⟨PE.imp pe_dnewK fun σ H Q ⟨m, env, h, P, at_, t1, k⟩ p hp => ?_⟩
  have E : Ex X.K m h.length H (mput m h.length p) (h ++ [EO.dic []]).length (upd H p (.dK [])) := Ex.new hp
  have R : cJ X.K (mput m h.length p) (h ++ [EO.dic []]) (upd H p (.dK [])) := at_.hp.new hp ⟨[], upd_same, rfl⟩
  exact k _ _ t1 _ _ _ E R (by rw [az]; exact ⟨by simp, by rw [kZ]⟩)
theorem set_any (hu : X.A.units + 1 < cLine) : PSet X rSetA := by
  intro pins s σ H o i v ov iv u Q I ro ri rv h
  rcases h with h | ⟨a, H4, rfl, g, q⟩
  · exact set_list pins s σ H o i v ov iv u Q I ro ri rv h
  · obtain rfl : ov = Value.ref a := ro
    exact d_setItem hu I g ri rv fun s4 I4 => ⟨H4, I4, q⟩
theorem setA_sim {K : PySem.W.Frag} {m : Nat → Addr} {h : EH} {H : Hp} {o i v : EV} {x y z : V} {P : EH → Prop} {Q : Hp → Prop} (R : cJ K m h H) (rx : az K m h.length H o x) (ry : az K m h.length H i y) (rz : az K m h.length H v z) (q : setA o i v h P)
    (k : ∀ h', P h' → ∀ H', Ex K m h.length H m h'.length H' → cJ K m h' H' → Q H') : rSetA x y z H Q := by
  unfold setA at q
  split at q
  · split at q
    · rename_i kvs e
      rw [az] at rx
      obtain ⟨_, rfl⟩ := rx
      obtain ⟨hk, hl, q⟩ := q
      obtain ⟨l, a, r⟩ := R.obj _ _ e
      obtain ⟨k', rfl⟩ := key_of hk ry
      have ll := bj.length r
      refine .inr ⟨_, _, rfl, DPut.k a (by omega), ?_⟩
      have E := Ex.write (o := .dK (putK l k' z)) (e' := EO.dic (dPut kvs i v)) R e
      exact k _ q _ E (R.write e ⟨_, upd_same, bj.put (az.ex E _ _ ry) hk (az.ex E _ _ rz) (r.ex E)⟩)
    · rename_i kvs e
      rw [az] at rx
      obtain ⟨_, rfl⟩ := rx
      obtain ⟨hk, hl, q⟩ := q
      obtain ⟨l, a, r⟩ := R.obj _ _ e
      obtain ⟨k', b, ek, rfl, hb⟩ := keyT_of hk ry
      have ll := bY.length r
      refine .inr ⟨_, _, rfl, DPut.t a hb (by omega), ?_⟩
      have E := Ex.write (o := .dT (putK l k' z)) (e' := EO.dct (dPutT kvs i v)) R e
      exact k _ q _ E (R.write e ⟨_, upd_same, bY.put ek (az.ex E _ _ rz) (r.ex E)⟩)
    · exact .inl (set_sim R rx ry rz q k)
  · exact .inl (set_sim R rx ry rz q k)
def cQ (to ti te : LT) : LS := fun D env h => te env h fun v h1 => to env h1 fun o h2 => ti env h2 fun i h3 => setA o i v h3 fun h4 => D.nx env h4
theorem ls_setA {o i e : Expr} {to ti te : LT} {tpos : Pos} (hu : X.A.units + 1 < cLine) (he : LE X e te) (ho : LE X o to) (hi : LE X i ti) (ha : ∀ v, assign (.Subscript o i tpos) X.env v = (do
      let ov ← holding [v] (eval o X.env)
      let iv ← holding [v, ov] (eval i X.env)
      standAt tpos
      holding [v, ov, iv] (setItem ov iv v)
      release [v, ov, iv] []) := by intro _; rfl) (hs : swapsWithSole [.Subscript o i tpos] e pos.line X.env = pure false := by rfl) (hw : swappedStores [.Subscript o i tpos] e X.env = pure none := by rfl)
    (h1 : (assignEach [.Subscript o i tpos] X.env).map (·.2) = [assign (.Subscript o i tpos) X.env] := by rfl) : LSt X (.Assign [.Subscript o i tpos] e pos) (cQ to ti te) :=
  ⟨PS.imp (ps_asg he.pe (pg_sub ho.pe hi.pe (set_any hu) ha) hs hw h1) fun D σ H ⟨m, env, h, P, at_, t1, k⟩ => ⟨m, env, h, _, at_, t1, fun v h1 p1 m1 H1 x E1 R1 r1 =>
    ⟨m1, env, h1, _, at_.ex E1 R1, p1, fun o h2 p2 m2 H2 y E2 R2 r2 => ⟨m2, env, h2, _, (at_.ex E1 R1).ex E2 R2, p2, fun i h3 p3 m3 H3 z E3 R3 r3 =>
      setA_sim R3 (az.ex E3 _ _ r2) r3 (az.ex (E2.trans E3) _ _ r1) p3 fun h4 p4 H4 E4 R4 => k.nx _ _ p4 m3 H4 σ (((E1.trans E2).trans E3).trans E4) ((((at_.ex E1 R1).ex E2 R2).ex E3 R3).ex E4 R4)⟩⟩⟩⟩
def minE : LC := fun vs h P => match vs with
  | [.ref r] => match h[r]? with
    | some (.lst xs) => ∃ ns : List Int, xs = ns.map EV.int ∧ ns ≠ [] ∧ ∀ m, m ∈ ns → (∀ y ∈ ns, m ≤ y) → P (.int m) h
    | _ => False
  | [.int i, .int j] => P (.int (if j < i then j else i)) h
  | _ => False
theorem lc_min (hc : X.calm = true) : jX X (.builtin "min") minE := by
  refine ⟨_, CallR.or (cr_min hc) (call_min2 hc), fun m h H vs xs P Q R r0 q k => ?_⟩
  unfold minE at q
  split at q
  · obtain ⟨v, rfl, r⟩ := r0.one_inv
    rw [az] at r
    obtain ⟨_, rfl⟩ := r
    split at q
    · rename_i e
      obtain ⟨us, a, r⟩ := R.obj _ _ e
      obtain ⟨ns, rfl, ne, q⟩ := q
      have := r.ints
      subst this
      exact .inl ⟨_, ns, rfl, SqL.of a, List.length_pos_iff.mpr ne, fun z h1 h2 => k.same R (q z h1 h2) (by rw [az])⟩
    · exact q.elim
  · obtain ⟨v, w, rfl, r1, r2⟩ := r0.two_inv
    rw [az] at r1
    rw [az] at r2
    subst r1 r2
    exact .inr ⟨_, _, rfl, k.same R q (by rw [az])⟩
  · exact q.elim
theorem aC.bools {K : PySem.W.Frag} {m : Nat → Addr} {n : Nat} {H : Hp} : ∀ {ns : List Bool} {vs : List V}, aC K m n H (ns.map EV.bl) vs → vs = ns.map V.bl
  | [], _, r => by rw [List.map_nil, aC] at r; exact r
  | i :: l, _, r => by
    rw [List.map_cons, aC] at r
    obtain ⟨v, t, rfl, a, b⟩ := r
    rw [az] at a
    rw [a, aC.bools b]; rfl
def quE (f : List Bool → Bool) : LC := fun vs h P => match vs with
  | [.ref r] => match h[r]? with
    | some (.lst xs) => ∃ bs : List Bool, xs = bs.map EV.bl ∧ P (.bl (f bs)) h
    | _ => False
  | _ => False
abbrev allE : LC := quE fun bs => bs.all id
theorem lc_all (hc : X.calm = true) : jX X (.builtin "all") allE := by
  refine ⟨_, cr_all hc, fun m h H vs xs P Q R r0 q k => ?_⟩
  unfold allE quE at q
  split at q
  · obtain ⟨v, rfl, r⟩ := r0.one_inv
    rw [az] at r
    obtain ⟨_, rfl⟩ := r
    split at q
    · rename_i e
      obtain ⟨us, a, r⟩ := R.obj _ _ e
      obtain ⟨ns, rfl, q⟩ := q
      have := r.bools
      subst this
      exact ⟨_, ns, rfl, SqL.of a, k.same R q (by rw [az])⟩
    · exact q.elim
  · exact q.elim
end
section
variable {X : Cx} {pos : Pos}
theorem up_lc (own : List (Str × Nat)) {ti : LI} {p : Pat} {tt : LTt} {te : LT} (hp : ∀ i ∈ Pat.slots p, i ∈ own.map (·.2)) (σ : L2.St) (H : Hp) (Q : VK) (q : up X.K (lLc ti p tt te (own.map (·.2))) σ H Q) :
    tLc (upI X.K ti) (gP X.K p) (upT X.K tt) (up X.K te) (own.map (·.2)) σ H Q := by
  obtain ⟨m, env, h, P, at_, t1, k⟩ := q
  refine ⟨m, env, h, _, at_, t1, fun g xs h1 p1 m1 H1 J E1 R1 sim D hD => ?_⟩
  have E2 : Ex X.K m1 h1.length H1 (mput m1 h1.length D) (h1 ++ [EO.lst []]).length (upd H1 D (.lst [])) := Ex.new hD
  have R2 : cJ X.K (mput m1 h1.length D) (h1 ++ [EO.lst []]) (upd H1 D (.lst [])) := R1.new hD ⟨[], upd_same, .nil⟩
  refine ⟨fun i c H' => c = xs.length - i ∧ i ≤ xs.length ∧ ∃ m2 h2, Ex X.K m1 h1.length H1 m2 h2.length H' ∧ cJ X.K m2 h2 H' ∧ m2 h1.length = D ∧ h1.length < h2.length ∧ lcE g p tt te h1.length (bJ env (own.map (·.2))) P (xs.drop i) h2,
    ⟨xs.length, by simp, Nat.zero_le _, _, _, E2, R2, kZ, by simp, by simpa using p1⟩, ?_⟩
  rintro i c H' ⟨rfl, hi, m2, h2, E3, R3, eD, lD, q⟩
  by_cases hlt : i < xs.length
  · have ed : xs.drop i = xs[i] :: xs.drop (i + 1) := List.drop_eq_getElem_cons hlt
    rw [ed, lcE] at q
    obtain ⟨qg, q⟩ := q
    obtain ⟨s1, s2⟩ := sim i h2 m2 H' E3 R3 qg
    obtain ⟨go, yl⟩ := s1 xs[i] (List.getElem?_eq_getElem hlt)
    refine .inr ⟨go, fun H4 => ∃ m4 h4, Ex X.K m1 h1.length H1 m4 h4.length H4 ∧ cJ X.K m4 h4 H4 ∧ m4 h1.length = D ∧ h1.length < h4.length ∧ lcE g p tt te h1.length (bJ env (own.map (·.2))) P (xs.drop (i + 1)) h4,
      fun H4 q4 => ⟨xs.length - (i + 1), by omega, rfl, hlt, q4⟩, fun v H4 y => ?_⟩
    obtain ⟨E4, R4, r4⟩ := yl v H4 y
    have E14 := (E1.trans E3).trans E4
    obtain ⟨env5, σ5, q5, f, N5, keep, len⟩ := bind_sim R4 ((at_.nm.ex E14).wipe (own.map (·.2))) r4 q
    refine f _ ⟨wipe_back (ss := Pat.slots p) keep hp (by rw [len, wipe_length]), m2, env5, h2, _, ⟨R4, N5⟩, q5, fun b h6 p6 m6 H6 E6 R6 => ?_⟩
    have E16 := (E3.trans E4).trans E6
    have lt2 := E6.le
    have eD6 : m6 h1.length = D := (E6.eq _ lD).trans eD
    cases b with
    | false =>
      dsimp only
      rw [if_neg Bool.false_ne_true] at p6 ⊢
      exact ⟨m6, h6, E16, R6, eD6, by omega, p6⟩
    | true =>
      dsimp only
      rw [if_pos rfl] at p6 ⊢
      refine ⟨m6, env5, h6, _, ⟨R6, N5.ex E6⟩, p6, fun w h7 p7 m7 H7 y7 E7 R7 r7 => ?_⟩
      have lt7 := E7.le
      have eD7 : m7 h1.length = D := (E7.eq _ (by omega)).trans eD6
      split at p7
      · rename_i acc e7
        obtain ⟨vs, a, r⟩ := R7.obj _ _ e7
        rw [eD7] at a
        refine ⟨vs, a, by rw [← r.length]; exact p7.1, ?_⟩
        have E8 := Ex.write (o := .lst (vs ++ [y7])) (e' := EO.lst (acc ++ [w])) R7 e7
        have R8 := R7.write (o := .lst (vs ++ [y7])) (e' := EO.lst (acc ++ [w])) e7 ⟨_, upd_same, (aC.ex E8 _ _ r).app (.one (az.ex E8 _ _ r7))⟩
        rw [eD7] at E8 R8
        exact ⟨m7, _, (E16.trans E7).trans E8, R8, eD7, by simp; omega, p7.2⟩
      · exact p7.elim
  · have e : i = xs.length := by omega
    subst e
    rw [List.drop_length, lcE] at q
    obtain ⟨_, s2⟩ := sim xs.length h2 m2 H' E3 R3 q.1
    refine .inl ⟨s2 rfl, k _ _ q.2 m2 H' _ (E1.trans E3) R3 (by rw [az]; exact ⟨lD, by rw [eD]⟩)⟩
theorem ls_setLc (i : Nat) {y : Str} {py : Pos} {elt tg iter : Expr} {ifs : List Expr} {scope : Scope} (own : List (Str × Nat)) {spos : Pos} {ti : LI} {p : Pat} {tt : LTt} {te : LT} (hc : X.calm = true) (hN : X.N.Nodup) (hi : LIt X tg iter ti) (ok : BlkOk X.N X.env.scope scope own)
    (hp : ∀ i ∈ Pat.slots p, i ∈ own.map (·.2))
    (hg : ∀ (s : Shared) (H : Hp) (C : Addr) (cl : List (Str × Addr)) (fp : List Addr), LG (X.blk s H scope (compEnvC scope cl C X.env) fp) tg p)
    (ht : ∀ (s : Shared) (H : Hp) (C : Addr) (cl : List (Str × Addr)) (fp : List Addr), LTs (X.blk s H scope (compEnvC scope cl C X.env) fp) ifs tt)
    (he : ∀ (s : Shared) (H : Hp) (C : Addr) (cl : List (Str × Addr)) (fp : List Addr), LE (X.blk s H scope (compEnvC scope cl C X.env) fp) elt te) (hy : X.N[i]? = some y := by rfl) (hyl : X.env.scope.names.lookup y = some .local := by rfl)
    (hsw : swapsWith (.ListComp elt [⟨tg, iter, ifs, 0⟩] scope pos) (some (.Name y py)) spos.line X.env = pure true := by exact sw_true rfl rfl rfl (by decide +kernel)) (hs : ∀ x, foldedSetIterable iter X.env x = pure x := by intro _; rfl) :
    LSt X (.Assign [.Name y py] (.ListComp elt [⟨tg, iter, ifs, 0⟩] scope pos) spos) (bA (lLc ti p tt te (own.map (·.2))) i) :=
  ⟨PS.imp (ps_setLc (g := gP X.K p) (tt := upT X.K tt) (te := up X.K te) hc hN hy hyl hsw hi.pi ok (fun s H C cl fp => (hg s H C cl fp).pg) (fun s H C cl fp => (ht s H C cl fp).pts) (fun s H C cl fp => (he s H C cl fp).pe) hs) fun D σ H ⟨m, env, h, P, at_, t1, k⟩ =>
    up_lc own hp σ H _ ⟨m, env, h, fun v h1 => P.nx (env.set i (some v)) h1, at_, t1, fun v h1 p1 m1 H1 x E1 R1 r1 => k.nx _ _ p1 m1 H1 _ E1 ⟨R1, (at_.nm.ex E1).set r1 i⟩⟩⟩
end
section
variable {X : Cx} {pos : Pos}
end
section
variable {X : Cx}
end
def lPar3 (i j l : Nat) (ta : LA) : LS := fun D env h => ta env h fun vs h1 => match vs with
  | [u, v, w] => D.nx (((env.set i (some u)).set j (some v)).set l (some w)) h1
  | _ => False
theorem ls_par3 {X : Cx} {pos : Pos} (i j l : Nat) {x y z : Str} {a b c : Expr} {ta : LA} {px py pz pt : Pos} {kt k2 pt2} (hc : X.calm = true) (hN : X.N.Nodup) (ha : LAs X [a, b, c] ta) (hi : X.N[i]? = some x := by rfl) (hj : X.N[j]? = some y := by rfl) (hl : X.N[l]? = some z := by rfl) (hij : i ≠ j := by decide) (hil : i ≠ l := by decide) (hjl : j ≠ l := by decide)
    (hx : X.env.scope.names.lookup x = some .local := by rfl) (hy : X.env.scope.names.lookup y = some .local := by rfl) (hz : X.env.scope.names.lookup z = some .local := by rfl)
    (hw : swappedStores [.Tuple [.Name x px, .Name y py, .Name z pz] kt pt] (.Tuple [a, b, c] k2 pt2) X.env = pure (some [x, y, z]) := by rfl)
    (hs : swapsWithSole [.Tuple [.Name x px, .Name y py, .Name z pz] kt pt] (.Tuple [a, b, c] k2 pt2) pos.line X.env = pure false := by rfl) :
    LSt X (.Assign [.Tuple [.Name x px, .Name y py, .Name z pz] kt pt] (.Tuple [a, b, c] k2 pt2) pos) (lPar3 i j l ta) := by
  refine ⟨PS.imp (ps_par3 hc hN hi hj hl hij hil hjl hx hy hz ha.pa hw hs) fun D σ H ⟨m, env, h, P, at_, t1, k⟩ => ⟨m, env, h, _, at_, t1, fun vs h1 p1 m1 H1 xs E1 R1 r1 => ?_⟩⟩
  split at p1
  · rw [aC] at r1
    obtain ⟨u, l1, rfl, a1, r1⟩ := r1
    obtain ⟨v, w, rfl, a2, a3⟩ := r1.two_inv
    exact ⟨u, v, w, rfl, k.nx _ _ p1 m1 H1 _ E1 ⟨R1, (((at_.nm.ex E1).set a1 i).set a2 j).set a3 l⟩⟩
  · exact p1.elim
def putO (i : Nat) (v : EV) (vs : List (Option EV)) : List (Option EV) := (vs ++ List.replicate (i + 1 - vs.length) Option.none).set i (some v)
theorem putO_get (i : Nat) (v : EV) (vs : List (Option EV)) : (putO i v vs)[i]? = some (some v) := by
  unfold putO
  exact List.getElem?_set_self (by simp only [List.length_append, List.length_replicate]; omega)
theorem putO_ne {i j : Nat} {v x : EV} {vs : List (Option EV)} (h : j ≠ i) : (putO i v vs)[j]? = some (some x) ↔ vs[j]? = some (some x) := by
  unfold putO
  rw [List.getElem?_set_ne (Ne.symm h)]
  by_cases hj : j < vs.length
  · rw [List.getElem?_append_left hj]
  · have e1 : vs[j]? = Option.none := List.getElem?_eq_none_iff.mpr (by omega)
    rw [e1, List.getElem?_append_right (by omega), List.getElem?_replicate]
    constructor
    · intro q
      split at q <;> cases q
    · intro q
      cases q
section
variable {K : PySem.W.Frag} {m : Nat → Addr} {n : Nat} {H : Hp}
theorem sqT_upd3 {a p : Addr} {xs : List V} {o : HO} (h : SqT K H a xs) (hp : ∀ u, H p = some u → (∀ ys, u ≠ .tup ys) ∧ ∀ q ys, u ≠ .frz q (.tup ys)) : SqT K (upd H p o) a xs := by
  rcases h with h | h
  · refine .inl ?_
    have ne : a ≠ p := by
      rintro rfl
      rcases h with h | ⟨q, h⟩
      · exact (hp _ h).1 _ rfl
      · exact (hp _ h).2 _ _ rfl
    rcases h with h | ⟨q, h⟩
    · exact .inl (by rw [upd_ne ne]; exact h)
    · exact .inr ⟨q, by rw [upd_ne ne]; exact h⟩
  · exact .inr h
theorem tk_upd3 {H : Hp} {a p : Addr} {xs : List V} {o : HO} (h : H a = some (.tup xs)) (hp : ∀ u, H p = some u → ∀ ys, u ≠ .tup ys) : upd H p o a = some (.tup xs) := by
  have ne : a ≠ p := by
    rintro rfl
    exact hp _ h _ rfl
  rw [upd_ne ne]; exact h
theorem cJ.slot {h : EH} {r C dx : Nat} {vs : List (Option EV)} {ws : List (Option V)} {i : Nat} {v : EV} {x : V} (R : cJ K m h H) (hr : h[r]? = some (.slo C vs)) (S : SlX.Slt H (m r) C dx ws) (ne : dx ≠ m r) (hd : H dx = some (.own (m r)) ∨ H dx = some (.xd []))
    (rw' : ∀ (j : Nat) (v : EV), vs[j]? = some (some v) → ∃ w, ws[j]? = some (some w) ∧ az K m h.length H v w) (rx : az K m h.length H v x) :
    Ex K m h.length H m (h.set r (.slo C (putO i v vs))).length (SlX.slH H (m r) C dx (SlX.putS i x ws)) ∧ cJ K m (h.set r (.slo C (putO i v vs))) (SlX.slH H (m r) C dx (SlX.putS i x ws)) := by
  have hlt := (List.getElem?_eq_some_iff.mp hr).1
  have tops := R.tops hr
  have E : Ex K m h.length H m (h.set r (.slo C (putO i v vs))).length (SlX.slH H (m r) C dx (SlX.putS i x ws)) := by
    refine ⟨by simp, fun _ _ => rfl, fun a xs q => ?_, fun a xs q => ?_⟩
    · unfold SlX.slH
      refine sqT_upd3 (sqT_upd3 q fun u hu => ?_) fun u hu => ?_
      · rcases hd with z | z <;> rw [z] at hu <;> cases hu <;> exact ⟨fun _ z => (nomatch z), fun _ _ z => nomatch z⟩
      · rw [upd_ne (Ne.symm ne)] at hu
        exact ⟨(tops u hu).1, (tops u hu).2.1⟩
    · unfold SlX.slH
      refine tk_upd3 (tk_upd3 q fun u hu => ?_) fun u hu => ?_
      · rcases hd with z | z <;> rw [z] at hu <;> cases hu <;> exact fun _ z => nomatch z
      · rw [upd_ne (Ne.symm ne)] at hu
        exact (tops u hu).1
  refine ⟨E, ?_⟩
  have set_cases : ∀ {q : Nat} {u e' : EO}, (h.set r e')[q]? = some u → (q = r ∧ u = e') ∨ (q ≠ r ∧ h[q]? = some u) := fun {q u e'} hq => by
    by_cases z : r = q
    · subst z
      rw [List.getElem?_set_self hlt] at hq
      cases hq
      exact .inl ⟨rfl, rfl⟩
    · rw [List.getElem?_set_ne z] at hq
      exact .inr ⟨fun y => z y.symm, hq⟩
  refine ⟨fun q u hq => ?_, fun q p u v hq hp fu fv z => ?_⟩
  · rcases set_cases hq with ⟨rfl, rfl⟩ | ⟨z, hq⟩
    · have io := (R.obj _ _ hr).1
      refine ⟨io, dx, _, SlX.slH_slt ne, ne, .inr ?_, fun j y hj => ?_⟩
      · unfold SlX.slH
        rw [upd_ne ne, upd_same]
      · by_cases e : j = i
        · subst e
          rw [putO_get] at hj
          cases hj
          exact ⟨x, SlX.putS_get _ _ _, az.ex E _ _ rx⟩
        · obtain ⟨w, ew, r1⟩ := rw' j y ((putO_ne e).mp hj)
          exact ⟨w, (SlX.putS_ne e).mpr ew, az.ex E _ _ r1⟩
    · have Rq := R.obj q u hq
      have off : isF u = false → m q ≠ m r := fun fu y => z (R.inj q r u _ hq hr fu rfl y)
      by_cases fu : isF u = false
      · obtain ⟨c, hc, nt⟩ := Rq.there fu
        have nd : m q ≠ dx := by
          intro y
          rw [y] at hc
          rcases hd with z | z <;> rw [z] at hc <;> cases hc
          · exact nt.2.2.2.2 _ rfl
          · exact nt.2.2.2.1 _ rfl
        refine Rq.ex E (SlX.slH_ne (off fu) nd) fun b => ⟨fun e => ?_, fun e => ?_⟩
        · have nb : b ≠ m r := by
            rintro rfl
            exact (tops _ e).2.2.2.1 _ rfl
          unfold SlX.slH
          rw [upd_ne nb]
          by_cases y : b = dx
          · rw [y, upd_same]
          · rw [upd_ne y]; exact e
        · have nb : b ≠ m r := by
            rintro rfl
            exact (tops _ e).2.2.2.2 _ rfl
          have nd : b ≠ dx := by
            rintro rfl
            rcases hd with z | z
            · rw [z] at e
              injection e with e
              injection e with e
              exact off fu e.symm
            · rw [z] at e
              cases e
          rw [SlX.slH_ne nb nd]
          exact e
      · cases u with
        | frz xs =>
          obtain ⟨us, e, r1⟩ := Rq
          refine ⟨us, ?_, aC.ex E _ _ r1⟩
          rcases e with ⟨o, e⟩ | e
          · refine .inl ⟨o, ?_⟩
            have nb : m q ≠ m r := by
              intro y
              rw [y] at e
              exact (tops _ e).2.2.1 _ _ rfl
            have nd : m q ≠ dx := by
              intro y
              rw [y] at e
              rcases hd with z | z <;> rw [z] at e <;> cases e
            rw [SlX.slH_ne nb nd]
            exact e
          · exact .inr e
        | xob fs =>
          obtain ⟨l, e, r1⟩ := Rq
          refine ⟨l, ?_, RelFs.ex E _ _ r1⟩
          have nb : m q ≠ m r := by
            intro y
            rw [y] at e
            exact (tops _ e).2.2.2.1 _ rfl
          by_cases nd : m q = dx
          · rw [nd] at e ⊢
            rcases hd with z | z
            · rw [z] at e; cases e
            · rw [z] at e
              cases e
              unfold SlX.slH
              rw [upd_ne ne, upd_same]
          · rw [SlX.slH_ne nb nd]
            exact e
        | mark m0 n0 H0 => exact Ex.trans Rq E
        | _ => exact absurd rfl fu
  · rcases set_cases hq with ⟨a, a'⟩ | ⟨a, hq'⟩ <;> rcases set_cases hp with ⟨b, b'⟩ | ⟨b, hp'⟩
    · rw [a, b]
    · rw [a] at z; exact absurd (R.inj p r v _ hp' hr fv rfl z.symm) b
    · rw [b] at z; exact absurd (R.inj q r u _ hq' hr fu rfl z) a
    · exact R.inj q p u v hq' hp' fu fv z
end
abbrev STab := List (Addr × Nat)
def SlotOf (K : PySem.W.Frag) (f : Str) (tab : STab) : Prop := ∀ q ∈ tab, SlX.SCls K q.1 ∧ ∃ p, SlX.Slot1 K q.1 f p q.2
def lSetAt (tab : STab) (to tv : LT) : LS := fun D env h => tv env h fun v h1 => to env h1 fun o h2 => match o with
  | .ref r => match h2[r]? with
    | some (.slo C vs) => match tab.lookup C with
      | some i => D.nx env (h2.set r (.slo C (putO i v vs)))
      | none => False
    | _ => False
  | _ => False
section
variable {X : Cx} {pos pos' apos : Pos} {o e : Expr} {es : List Expr} {to te : LT} {t : LA} {f x : Str}
theorem ls_attr {tab : STab} (T : SlotOf X.K f tab) (ho : LE X o to) (hv : LE X e te) (hs : swapsWith e (some (.Attribute o f pos')) pos.line X.env = pure false := by rfl) : LSt X (.Assign [.Attribute o f pos'] e pos) (lSetAt tab to te) := by
  refine ⟨PS.imp (SlX.ps_sl ho.pe hv.pe hs) fun D σ H ⟨m, env, h, P, at_, t1, k⟩ => ⟨m, env, h, _, at_, t1, fun v h1 p1 m1 H1 x E1 R1 r1 => ⟨m1, env, h1, _, at_.ex E1 R1, p1, fun o h2 p2 m2 H2 y E2 R2 r2 => ?_⟩⟩⟩
  split at p2
  · rw [az] at r2
    obtain ⟨_, rfl⟩ := r2
    split at p2
    · rename_i C vs e
      obtain ⟨io, dx, ws, s, ne, hd, r⟩ := R2.obj _ _ e
      split at p2
      · rename_i i ei
        obtain ⟨c, p, sl⟩ := T _ (lookup_mem ei)
        have Z := R2.slot (i := i) e s ne hd r (az.ex E2 _ _ r1)
        exact ⟨_, C, dx, p, ws, i, rfl, s, c, sl, k.nx _ _ p2 m2 _ σ ((E1.trans E2).trans Z.1) (((at_.ex E1 R1).ex E2 R2).ex Z.1 Z.2)⟩
      · exact p2.elim
    · exact p2.elim
  · exact p2.elim
def pM (C : Addr) (sp : LSp) (t : LA) : LT := fun env h P => t env h fun vs h1 => sp (.ref h1.length :: vs) (h1 ++ [.slo C []]) fun v h2 => v = .non ∧ P (.ref h1.length) h2
variable {k : Nat} {g C : Addr} {fd : FuncData} {ps : List Str} {sp : LSp} {p : Pos}
theorem guards_make {A : Around} (C : Addr) (us : List Value) (hG : A.guards = some []) : (A.under (.builtin "type.__call__" ⟨.ref C :: us, []⟩)).guards = some [] := by
  first | exact hG | simp [Around.under, Code.weight, Code.isCreation, Code.isGuard, Code.isCaller, Code.frames, Code.isFrame, guardIds, hG]
theorem runMk {pins : List (Addr × Obj)} {σ : L2.St} {H : Hp} {s : Shared} {Q : VK} {us : List Value} {vs : List V} (M : Mk X.K C g) (F : FnG X.prog X.w X.K X.mg X.base k g fd ps sp) (hr : Room (k + 1) X.A) (hG : X.A.guards = some []) (hb : Binds X.K fd ps [])
    (I : Inv X pins σ H s) (r : Vals vs us)
    (h : ∀ x dx, H x = none → H dx = none → dx ≠ x → upSp X.K sp (.ref x :: vs) (upd (upd H dx (.own x)) x (.ins C dx [])) (fun v H2 => v = .non ∧ Q (.ref x) H2)) :
    wpAny (model X.prog X.w) X.A (call (.ref C) us) (EP X pins σ Q) X.xe s := by
  have hq := h (s.heap.objs.size + 1) s.heap.objs.size (I.hok.fresh (Nat.le_succ _)) (I.hok.fresh (Nat.le_refl _)) (Nat.ne_of_lt (Nat.lt_succ_self _))
  have I2 := Inv.made (C := C) I
  have r2 : Vals (V.ref (s.heap.objs.size + 1) :: vs) (Value.ref (s.heap.objs.size + 1) :: us) := .cons rfl r
  have hl : (Value.ref (s.heap.objs.size + 1) :: us).length = ps.length := by
    have e := r2.length
    rw [upSp.len F.len hq] at e
    exact e.symm
  have b := hb _ (Value.ref (s.heap.objs.size + 1) :: us) I2.kIn (by rw [List.append_nil]; exact hl)
  rw [List.append_nil] at b
  refine wpAny_call (make_map (f := g) I.kIn M.makes M.init (beq_iff_eq.mp M.fn) (codeAny_mono (F.run _ X.stack _ _ ⟨Value.ref (s.heap.objs.size + 1) :: us, []⟩ (Value.ref (s.heap.objs.size + 1) :: us) _ _ (hr.make C us []) (guards_make C us hG)
    (I2.env0.make C us []) b r2 hq) fun r s' hq' => ?_))
  match r, hq' with
  | .error _, ho => exact ho.elim
  | .ok (.ret u), ho =>
    obtain ⟨v, H', I3, rv, ev, q3⟩ := I2.after ho
    subst ev
    exact ⟨rv, ⟨V.ref (s.heap.objs.size + 1), H', I3, rfl, q3⟩⟩
  | .ok .next, ho => exact ho.elim
  | .ok .brk, ho => exact ho.elim
  | .ok .cont, ho => exact ho.elim
theorem up_make {K : PySem.W.Frag} (io : IsiOk K C) (σ : L2.St) (H : Hp) (Q : VK) (q : up K (pM C sp t) σ H Q) : upA K t σ H fun vs H1 => ∀ x dx, H1 x = none → H1 dx = none → dx ≠ x → upSp K sp (.ref x :: vs) (upd (upd H1 dx (.own x)) x (.ins C dx [])) (fun v H2 => v = .non ∧ Q (.ref x) H2) := by
  obtain ⟨m, env, h, P, at_, t1, k⟩ := q
  refine ⟨m, env, h, _, at_, t1, fun vs h1 p1 m1 H1 xs E1 R1 r1 x dx hx hdx ne => ?_⟩
  have E2 : Ex K m1 h1.length H1 m1 h1.length (upd H1 dx (.own x)) := Ex.tup1 hdx
  have R2 := R1.tup (o := .own x) hdx
  have hx2 : upd H1 dx (.own x) x = none := by rw [upd_ne (Ne.symm ne)]; exact hx
  have E3 : Ex K m1 h1.length (upd H1 dx (.own x)) (mput m1 h1.length x) (h1 ++ [EO.slo C []]).length (upd (upd H1 dx (.own x)) x (.ins C dx [])) := Ex.new hx2
  have R3 : cJ K (mput m1 h1.length x) (h1 ++ [EO.slo C []]) (upd (upd H1 dx (.own x)) x (.ins C dx [])) := R2.new hx2 ⟨io, dx, [], .inl ⟨upd_same, rfl⟩, ne, .inl (by rw [upd_ne ne, upd_same]), fun i v q => by simp at q⟩
  have E := E2.trans E3
  refine ⟨mput m1 h1.length x, _, _, _, R3, .cons (by rw [az]; exact ⟨by simp, by rw [kZ]⟩) (aC.ex E _ _ r1), p1, fun v h2 p2 m2 H2 y E4 R4 r4 => ?_⟩
  obtain ⟨rfl, p2⟩ := p2
  rw [az] at r4
  refine ⟨r4, k _ _ p2 m2 H2 _ ((E1.trans E).trans E4) R4 ?_⟩
  have lt := E4.le
  simp only [List.length_append, List.length_singleton] at lt
  rw [az]
  refine ⟨by omega, ?_⟩
  rw [E4.eq h1.length (by simp), kZ]
theorem le_make (io : IsiOk X.K C) (M : Mk X.K C g) (F : FnG X.prog X.w X.K X.mg X.base k g fd ps sp) (hr : Room (k + 1) X.A) (hG : X.A.guards = some []) (hg : Gl X x) (hm : X.mg x = some (.ref C)) (hb : Binds X.K fd ps [])
    (ha : LAs X (e :: es) t) (hdb : (x == ("__debug__" : Str)) = false := by decide) (he : starEach (e :: es) X.env = (false, eval e X.env) :: starEach es X.env := by rfl) (hpl : (backTo pos (starEach es X.env)).any (·.1) = false := by rfl) :
    LE X (.Call (.Name x p) (e :: es) [] pos) (pM C sp t) :=
  ⟨⟨fun pins s σ H Q I q => wpAny_Call_Name_kw (ld_glob I hg hm (PySem.W.callWith_K (h₀ := X.base) I.ok.mod.kin M.kp (thn (ha.pa.run pos pins s σ H _ I (up_make io σ H Q q)) fun us s1 ⟨vs, H1, I1, r, q1⟩ =>
    ⟨I1.kIn, runMk M F hr hG hb I1 r q1⟩) he hpl) hdb)⟩⟩
end
def lLockE (t : LT) : LT := fun env h P => ∃ r kvs, h[r]? = some (.dic kvs) ∧ ∀ od l, t env (h.set r (.dlk od l kvs)) fun v h' => h'[r]? = some (.dlk od l kvs) ∧ P v (h'.set r (.dic kvs))
theorem le_lock {X : Cx} {e : Expr} {t : LT} (he : LE X e t) : LE X e (lLockE t) := by
  refine ⟨PE.imp (pe_lock he.pe) fun σ H Q ⟨m, env, h, P, at_, t1, k⟩ => ?_⟩
  obtain ⟨r, kvs, er, t1⟩ := t1
  obtain ⟨l, a, rl⟩ := at_.hp.obj _ _ er
  refine ⟨m r, .dK l, a, trivial, fun od => ?_⟩
  have E := Ex.write (o := .frz od (.dK l)) (e' := EO.dlk od l kvs) at_.hp er
  have R := at_.hp.write (o := .frz od (.dK l)) (e' := EO.dlk od l kvs) er ⟨upd_same, rl.ex E⟩
  refine ⟨m, env, _, _, at_.ex E R, t1 od l, fun v h' p m' H' x E' R' r' => ?_⟩
  have hr := gK er
  have em : m' r = m r := E'.eq r (by simpa using hr)
  obtain ⟨a', rl'⟩ := R'.obj _ _ p.1
  rw [em] at a'
  refine ⟨a', ?_⟩
  have E2 := Ex.write (o := .dK l) (e' := EO.dic kvs) R' p.1
  have R2 := R'.write (o := .dK l) (e' := EO.dic kvs) p.1 ⟨l, upd_same, rl'.ex E2⟩
  rw [em] at E2 R2
  exact k _ _ p.2 m' _ _ ((E.trans E').trans E2) R2 (az.ex E2 _ _ r')
theorem bj.at {K : PySem.W.Frag} {m : Nat → Addr} {n : Nat} {H : Hp} : ∀ {es : List (EV × EV)} {l : List (L2.Key × V)} {i : Nat} {p : EV × EV}, bj K m n H es l → es[i]? = some p → ∃ k v, l[i]? = some (k, v) ∧ az K m n H p.1 (kV k) ∧ az K m n H p.2 v
  | [], l, i, p, r, e => by simp at e
  | (a, x) :: es, l, 0, p, r, e => by
    rw [bj] at r
    obtain ⟨k, v, l', rfl, ra, rx, r⟩ := r
    simp at e
    subst e
    exact ⟨k, v, rfl, ra, rx⟩
  | (a, x) :: es, l, i + 1, p, r, e => by
    rw [bj] at r
    obtain ⟨k, v, l', rfl, ra, rx, r⟩ := r
    obtain ⟨k2, v2, e2, b⟩ := bj.at (i := i) r (by simpa using e)
    exact ⟨k2, v2, by simpa using e2, b⟩
def lItems (te : LT) : LI := fun env h P => te env h fun v h1 => match v with
  | .ref r => match h1[r]? with
    | some (.dlk o l kvs) => P (fun h' => h'[r]? = some (.dlk o l kvs)) (kvs.map fun p => EV.tup [p.1, p.2]) h1
    | _ => False
  | _ => False
theorem lit_items {X : Cx} {e : Expr} {te : LT} {elts : List Expr} {kk : Nat} {tpos apos cpos : Pos} (he : LE X e te) (hbase : attributeBase e "items" X.env (eval e X.env) = eval e X.env := by rfl) (hline : (apos.endLine == cpos.line) = true := by rfl) :
    LIt X (.Tuple elts kk tpos) (.Call (.Attribute e "items" apos) [] [] cpos) (lItems te) := by
  refine ⟨PI.imp (pi_items he.pe hbase hline) fun σ H R ⟨m, env, h, P, at_, t1, k⟩ => ⟨m, env, h, _, at_, t1, fun v h1 p1 m1 H1 x E1 R1 r1 => ?_⟩⟩
  split at p1
  · rename_i r
    rw [az] at r1
    obtain ⟨hr, rfl⟩ := r1
    split at p1
    · rename_i o l kvs er
      obtain ⟨a, rl⟩ := R1.obj _ _ er
      refine ⟨_, o, l, rfl, a, k _ _ h1 p1 m1 H1 _ E1 R1 fun i h' m' H' E' R' gh => ?_⟩
      obtain ⟨a', rl'⟩ := R'.obj _ _ gh
      rw [E'.eq _ hr] at a'
      have ll := bj.length rl'
      refine ⟨fun z hz => ?_, fun hi => ⟨a', by rw [List.length_map] at hi; omega⟩⟩
      rw [List.getElem?_map] at hz
      obtain ⟨p, hp, rfl⟩ := Option.map_eq_some_iff.mp hz
      obtain ⟨k2, v2, e2, ra, rb⟩ := bj.at rl' hp
      refine ⟨⟨a', (List.getElem?_eq_some_iff.mp e2).1⟩, fun v H2 ⟨T, k3, v3, e3, ev, hT, eH⟩ => ?_⟩
      rw [e2] at e3
      cases e3
      subst ev eH
      exact rel_pair R' hT ra rb
    · exact p1.elim
  · exact p1.elim
def tyE (v : EV) (h : EH) : Option String := match v with
  | .non => some "NoneType"
  | .bl _ => some "bool"
  | .int _ => some "int"
  | .str _ => some "str"
  | .ref r => match h[r]? with
    | some (.lst _) => some "list"
    | some (.dic _) => some "dict"
    | some (.slo _ _) => some "?"
    | _ => none
  | .tup _ => some "tuple"
  | .ktup _ => some "tuple"
  | _ => none
def isiB (t T : String) : Bool := t == T || (t == "bool" && T == "int")
def jM : LC := fun vs h P => match vs with
  | [v, .ty T] => match tyE v h with
    | some t => (T = "int" ∨ T = "bool" ∨ T = "str" ∨ T = "tuple" ∨ T = "dict" ∨ T = "list") ∧ P (.bl (isiB t T)) h
    | none => False
  | _ => False
theorem isi_tab : ∀ t ∈ ["NoneType", "bool", "int", "str", "list", "dict", "tuple"], ∀ T ∈ ["int", "bool", "str", "tuple", "dict", "list"], kitB t T = some (isiB t T) := by decide +kernel
theorem eZ {X : Cx} {x : Str} {pos : Pos} (T : String) (hg : Gl X x) (hm : X.mg x = none) (hv : bootBuiltins x = some (.type T)) (hn : x ≠ "__name__" := by decide) (hdb : (x == ("__debug__" : Str)) = false := by decide) : LE X (.Name x pos) (lC (.ty T)) :=
  ⟨⟨fun pins s σ H Q I ⟨m, env, h, P, at_, t1, k⟩ => ld_blt I hg hm hv (s := s) ⟨.ty T, H, I, rfl, k _ _ t1 m H _ .refl at_.hp (by rw [az])⟩ hn hdb⟩⟩
section
open PySem.W
variable {prog : Program} {w : World} {A : Around} {E : Value → Shared → Prop} {s : Shared} {K : PySem.W.Frag} {x D : Addr} {ox od : Obj}
theorem cls_some (h : isClsIn K D = true) : ∃ cd, clsIn K D = some cd := Option.isSome_iff_exists.mp h
theorem kin_class2 {Q : Option Value → Shared → Prop} (io : IsiOk K D) (X : K.In s.heap) (I : InstAt s.heap x ox D (some od)) (h : Q (some (.ref D)) { s with toks := s.toks + 1 }) : wpAny (model prog w) A (getAttr? (.ref x) "__class__") Q E s := by
  have hf : findObj K D (some od) "__class__" = some (.bind (.builtin "getset_descriptor.__get__") (.builtin "object.__class__")) := findObj_data (by obtain ⟨cd, hc⟩ := cls_some io.ic; rw [hc]; rfl) io.cl io.gt io.tk
  exact kin_open X I (plainGet_of io.pg).1 (kin_hooked (s := { s with toks := s.toks + 1 }) X I hf (plainGet_of io.pg).2
    (wpAny_call (class_get (s := { s with toks := s.toks + 1 }) (ox := ox) (od := some od) X I io.mo (handed_on rfl h))))
theorem kitx_own2 (io : IsiOk K D) : KitX K (.ref x) (.ref D) (fun h => InstAt h x ox D (some od)) where
  ty := fun _ _ _ I => I.type
  it := fun _ _ X _ => by
    obtain ⟨cdD, hcD⟩ := cls_some io.ic
    unfold clsIn at hcD
    split at hcD
    · rename_i c' d' cd' sl' ho
      intro A' Q' E' s' k q
      unfold isType loadHead
      exact wpAny_bind (wpAny_loadPart (k _ _ (X _ _ ho)) (wpAny_pure q))
    · cases hcD
  ne := fun h tp dd its n sl X htp => by
    obtain ⟨cdD, hcD⟩ := cls_some io.ic
    refine Bool.eq_false_iff.mpr fun q => ?_
    have e : D = tp := Value.ref.inj (beq_iff_eq.mp q)
    subst e
    unfold clsIn at hcD
    split at hcD
    · rename_i c' d' cd' sl' ho
      have z := (X _ _ ho).symm.trans htp
      cases z
    · cases hcD
  ca := fun X I k => kin_class2 io X I k
end
def IsSl (K : PySem.W.Frag) (H : Hp) (a C : Addr) : Prop := IsiOk K C ∧ ∃ dx ws, SlX.Slt H a C dx ws ∧ (H dx = some (.own a) ∨ H dx = some (.xd []))
theorem IsSl.at {X : Cx} {pins : List (Addr × Obj)} {σ : L2.St} {H : Hp} {s : Shared} {a C : Addr} (I : Inv X pins σ H s) (z : IsSl X.K H a C) : ∃ ox od, PySem.W.InstAt s.heap a ox C (some od) := by
  obtain ⟨io, dx, ws, sl, hd⟩ := z
  have hdx : ∃ od, s.heap.get? dx = some od := by
    rcases hd with hd | hd
    · exact I.hok dx _ hd
    · obtain ⟨mA, ⟨od, es, ep, e, _⟩, _⟩ := I.hok dx _ hd
      exact ⟨od, e⟩
  obtain ⟨od, hod⟩ := hdx
  rcases sl with ⟨e, _⟩ | ⟨e, _⟩
  · obtain ⟨d, _, ne, e1, _⟩ := I.hok a _ e
    exact ⟨_, od, e1, rfl, rfl, hod⟩
  · have e' := I.hok a _ e
    unfold SlX.SlO at e'
    obtain ⟨⟨sl, e1, _⟩, _⟩ := e'
    exact ⟨_, od, e1, rfl, rfl, hod⟩
def rIsiS (K : PySem.W.Frag) : List V → Hp → VK → Prop := fun xs H Q => ∃ a C T, xs = [.ref a, .ty T] ∧ IsSl K H a C ∧ T ∈ ["int", "bool", "str", "tuple", "dict", "list"] ∧ Q (.bl false) H
theorem call_isiS {X : Cx} : CallR X (.builtin "isinstance") (rIsiS X.K) := by
  intro pins s σ H xs us Q I r h
  obtain ⟨a, C, T, rfl, z, hT, q⟩ := h
  obtain ⟨u1, u2, rfl, r1, r2⟩ := vals2 r
  cases (show u1 = Value.ref a from r1)
  cases (show u2 = Value.type T from r2)
  obtain ⟨ox, od, J⟩ := z.at I
  exact PySem.W.kia_one (kitx_own2 z.1) I.kIn J (z.1.ty T hT) (fun y => nomatch y) fun tk => ⟨.bl false, H, I.tok tk, rfl, q⟩
theorem eY {X : Cx} : jX X (.builtin "isinstance") jM := by
  refine ⟨_, CallR.or call_isi call_isiS, fun m h H vs xs P Q R r0 q k => ?_⟩
  unfold jM at q
  split at q
  · obtain ⟨x, y, rfl, r1, r2⟩ := r0.two_inv
    rw [az] at r2
    subst r2
    split at q
    · rename_i v T _ t et
      have hT : T ∈ ["int", "bool", "str", "tuple", "dict", "list"] := by
        rcases q.1 with z | z | z | z | z | z <;> rw [z] <;> simp
      by_cases hs : t = "?"
      · subst hs
        refine .inr ?_
        obtain ⟨r, C, vs, rfl, e⟩ : ∃ r C vs, v = .ref r ∧ h[r]? = some (.slo C vs) := by
          unfold tyE at et
          split at et <;> first
            | (rename_i r; split at et <;> first | (rename_i C vs e; exact ⟨r, C, vs, rfl, e⟩) | (simp at et; done))
            | (simp at et; done)
        rw [az] at r1
        obtain ⟨_, rfl⟩ := r1
        obtain ⟨io, dx, ws, sl, _, hd, _⟩ := R.obj _ _ e
        have qf : isiB "?" T = false := by
          simp only [List.mem_cons, List.not_mem_nil, or_false] at hT
          rcases hT with z | z | z | z | z | z <;> rw [z] <;> rfl
        rw [qf] at q
        exact ⟨_, _, T, rfl, ⟨io, dx, ws, sl, hd⟩, hT, k.same R q.2 (by rw [az])⟩
      have ty : TyX X.K H x (.type t) := by
        unfold tyE at et
        split at et
        · rw [az] at r1; subst r1; cases et; exact .base .non
        · rw [az] at r1; subst r1; cases et; exact .base (.bl _)
        · rw [az] at r1; subst r1; cases et; exact .base (.int _)
        · rw [az] at r1; subst r1; cases et; exact .base (.str _)
        · rw [az] at r1
          obtain ⟨_, rfl⟩ := r1
          split at et
          · rename_i e
            obtain ⟨us, a, _⟩ := R.obj _ _ e
            cases et; exact .base (.lst a)
          · rename_i e
            obtain ⟨us, a, _⟩ := R.obj _ _ e
            cases et; exact .base (.dK a)
          · cases et; exact absurd rfl hs
          · cases et
        · rw [az] at r1
          obtain ⟨a, us, rfl, ha, _⟩ := r1
          cases et
          exact .base (.tup ha)
        · rw [az] at r1
          obtain ⟨a, us, rfl, ha, _⟩ := r1
          cases et
          rcases ha with (ha | ⟨o, ha⟩) | ⟨o, its, n, hk, hc, _⟩
          · exact .base (.tup ha)
          · exact .fTuple ha
          · exact .kTuple hk hc
        · cases et
      have ht : t ∈ ["NoneType", "bool", "int", "str", "list", "dict", "tuple"] := by
        unfold tyE at et
        split at et <;> first | (cases et; simp; done) | (cases et; done) | (split at et <;> first | (cases et; simp; done) | (cases et; done) | (cases et; exact absurd rfl hs))
      exact .inl ⟨x, _, _, _, _, rfl, .ty T, ty, kit_ty (isi_tab t ht T hT), k.same R q.2 (by rw [az])⟩
    · exact q.elim
  · exact q.elim
def sortE : LC := fun vs h P => match vs with
  | [.ref r] => match h[r]? with
    | some (.dic kvs) => ∃ ks : List Int, kvs.map (·.1) = ks.map EV.int ∧ ks.length < 64 ∧ ∀ ys : List Int, ys.Perm ks → ys.Pairwise (· ≤ ·) → P (.ref h.length) (h ++ [.lst (ys.map EV.int)])
    | _ => False
  | _ => False
theorem bj.keysI {K : PySem.W.Frag} {m : Nat → Addr} {n : Nat} {H : Hp} : ∀ {es : List (EV × EV)} {l : List (L2.Key × V)} {ks : List Int}, bj K m n H es l → es.map (·.1) = ks.map EV.int → l.map (·.1) = ks.map Sum.inl
  | [], l, ks, r, e => by
    rw [bj] at r
    subst r
    cases ks with
    | nil => rfl
    | cons => simp at e
  | (a, x) :: es, l, ks, r, e => by
    rw [bj] at r
    obtain ⟨k, v, l', rfl, ra, _, r⟩ := r
    cases ks with
    | nil => simp at e
    | cons i ks =>
      rw [List.map_cons, List.map_cons, List.cons.injEq] at e
      obtain ⟨e1, e2⟩ := e
      have e1 : a = EV.int i := e1
      subst e1
      rw [az] at ra
      have : k = Sum.inl i := by
        cases k with
        | inl j => injection ra with z; rw [z]
        | inr s => cases ra
      rw [List.map_cons, List.map_cons, bj.keysI r e2, this]
theorem lc_sorted {X : Cx} (hc : X.calm = true) : jX X (.builtin "sorted") sortE := by
  refine ⟨_, call_sortedDI hc, fun m h H vs xs P Q R r0 q k => ?_⟩
  unfold sortE at q
  split at q
  · obtain ⟨v, rfl, r⟩ := r0.one_inv
    rw [az] at r
    obtain ⟨_, rfl⟩ := r
    split at q
    · rename_i e
      obtain ⟨l, a, rl⟩ := R.obj _ _ e
      obtain ⟨ks, ek, hl, q⟩ := q
      exact ⟨_, l, ks, rfl, .inl a, rl.keysI ek, hl, fun ys p hp hs hn => k.lst R (q ys hp hs) (rel_ints ys) hn⟩
    · exact q.elim
  · exact q.elim
def dcE (g : EH → Prop) (p : Pat) (tt : LTt) (tk tv : LT) (d : Nat) (env : En) (P : EK) : List EV → EH → Prop
  | [], h => g h ∧ P (.ref d) h
  | x :: xs, h => g h ∧ ie h p x env fun env2 => tt env2 h fun b h3 => if b = true then tk env2 h3 fun y h4 => tv env2 h4 fun z h5 => match h5[d]? with
      | some (.dic kvs) => isKey y ∧ kvs.length < sizeLine ∧ dcE g p tt tk tv d env P xs (h5.set d (.dic (dPut kvs y z)))
      | _ => False
    else dcE g p tt tk tv d env P xs h3
def lDc (ti : LI) (p : Pat) (tt : LTt) (tk tv : LT) (vs : List Nat) : LT := fun env h P => ti env h fun g xs h1 => dcE g p tt tk tv h1.length (bJ env vs) P xs (h1 ++ [.dic []])
section
variable {X : Cx} {pos : Pos}
theorem le_dc {kx vx tg iter : Expr} {ifs : List Expr} {scope : Scope} (own : List (Str × Nat)) {ti : LI} {p : Pat} {tt : LTt} {tk tv : LT} (hc : X.calm = true) (hN : X.N.Nodup) (hi : LIt X tg iter ti) (ok : BlkOk X.N X.env.scope scope own)
    (hp : ∀ i ∈ Pat.slots p, i ∈ own.map (·.2))
    (hg : ∀ (s : Shared) (H : Hp) (C : Addr) (cl : List (Str × Addr)) (fp : List Addr), LG (X.blk s H scope (compEnvC scope cl C X.env) fp) tg p)
    (ht : ∀ (s : Shared) (H : Hp) (C : Addr) (cl : List (Str × Addr)) (fp : List Addr), LTs (X.blk s H scope (compEnvC scope cl C X.env) fp) ifs tt)
    (hk : ∀ (s : Shared) (H : Hp) (C : Addr) (cl : List (Str × Addr)) (fp : List Addr), LE (X.blk s H scope (compEnvC scope cl C X.env) fp) kx tk)
    (he : ∀ (s : Shared) (H : Hp) (C : Addr) (cl : List (Str × Addr)) (fp : List Addr), LE (X.blk s H scope (compEnvC scope cl C X.env) fp) vx tv) (hs : ∀ x, foldedSetIterable iter X.env x = pure x := by intro _; rfl) :
    LE X (.DictComp kx vx [⟨tg, iter, ifs, 0⟩] scope pos) (lDc ti p tt tk tv (own.map (·.2))) := by
  refine ⟨PE.imp (pe_dc (g := gP X.K p) (tt := upT X.K tt) (tk := up X.K tk) (tv := up X.K tv) hc hN hi.pi ok (fun s H C cl fp => (hg s H C cl fp).pg) (fun s H C cl fp => (ht s H C cl fp).pts) (fun s H C cl fp => (hk s H C cl fp).pe) (fun s H C cl fp => (he s H C cl fp).pe) hs) fun σ H Q ⟨m, env, h, P, at_, t1, k⟩ => ⟨m, env, h, _, at_, t1, fun g xs h1 p1 m1 H1 J E1 R1 sim D hD => ?_⟩⟩
  have E2 : Ex X.K m1 h1.length H1 (mput m1 h1.length D) (h1 ++ [EO.dic []]).length (upd H1 D (.dK [])) := Ex.new hD
  have R2 : cJ X.K (mput m1 h1.length D) (h1 ++ [EO.dic []]) (upd H1 D (.dK [])) := R1.new hD ⟨[], upd_same, rfl⟩
  refine ⟨fun i c H' => c = xs.length - i ∧ i ≤ xs.length ∧ ∃ m2 h2, Ex X.K m1 h1.length H1 m2 h2.length H' ∧ cJ X.K m2 h2 H' ∧ m2 h1.length = D ∧ h1.length < h2.length ∧ dcE g p tt tk tv h1.length (bJ env (own.map (·.2))) P (xs.drop i) h2,
    ⟨xs.length, by simp, Nat.zero_le _, _, _, E2, R2, kZ, by simp, by simpa using p1⟩, ?_⟩
  rintro i c H' ⟨rfl, hi, m2, h2, E3, R3, eD, lD, q⟩
  by_cases hlt : i < xs.length
  · have ed : xs.drop i = xs[i] :: xs.drop (i + 1) := List.drop_eq_getElem_cons hlt
    rw [ed, dcE] at q
    obtain ⟨qg, q⟩ := q
    obtain ⟨s1, s2⟩ := sim i h2 m2 H' E3 R3 qg
    obtain ⟨go, yl⟩ := s1 xs[i] (List.getElem?_eq_getElem hlt)
    refine .inr ⟨go, fun H4 => ∃ m4 h4, Ex X.K m1 h1.length H1 m4 h4.length H4 ∧ cJ X.K m4 h4 H4 ∧ m4 h1.length = D ∧ h1.length < h4.length ∧ dcE g p tt tk tv h1.length (bJ env (own.map (·.2))) P (xs.drop (i + 1)) h4,
      fun H4 q4 => ⟨xs.length - (i + 1), by omega, rfl, hlt, q4⟩, fun v H4 y => ?_⟩
    obtain ⟨E4, R4, r4⟩ := yl v H4 y
    have E14 := (E1.trans E3).trans E4
    obtain ⟨env5, σ5, q5, f, N5, keep, len⟩ := bind_sim R4 ((at_.nm.ex E14).wipe (own.map (·.2))) r4 q
    refine f _ ⟨wipe_back (ss := Pat.slots p) keep hp (by rw [len, wipe_length]), m2, env5, h2, _, ⟨R4, N5⟩, q5, fun b h6 p6 m6 H6 E6 R6 => ?_⟩
    have E16 := (E3.trans E4).trans E6
    have lt2 := E6.le
    have eD6 : m6 h1.length = D := (E6.eq _ lD).trans eD
    cases b with
    | false =>
      dsimp only
      rw [if_neg Bool.false_ne_true] at p6 ⊢
      exact ⟨m6, h6, E16, R6, eD6, by omega, p6⟩
    | true =>
      dsimp only
      rw [if_pos rfl] at p6 ⊢
      refine ⟨m6, env5, h6, _, ⟨R6, N5.ex E6⟩, p6, fun w h7 p7 m7 H7 y7 E7 R7 r7 => ⟨m7, env5, h7, _, ⟨R7, (N5.ex E6).ex E7⟩, p7, fun z h8 p8 m8 H8 z8 E8 R8 r8 => ?_⟩⟩
      have lt7 := E7.le
      have lt8 := E8.le
      have eD8 : m8 h1.length = D := ((E8.eq _ (by omega)).trans (E7.eq _ (by omega))).trans eD6
      split at p8
      · rename_i kvs e8
        obtain ⟨l, a, rl⟩ := R8.obj _ _ e8
        obtain ⟨hkey, hz, p8⟩ := p8
        have r7' := az.ex E8 _ _ r7
        obtain ⟨k', rfl⟩ := key_of hkey r7'
        rw [eD8] at a
        have ll := bj.length rl
        refine ⟨l, k', rfl, a, by omega, ?_⟩
        have E9 := Ex.write (o := .dK (putK l k' z8)) (e' := EO.dic (dPut kvs w z)) R8 e8
        have R9 := R8.write (o := .dK (putK l k' z8)) (e' := EO.dic (dPut kvs w z)) e8 ⟨_, upd_same, bj.put (az.ex E9 _ _ r7') hkey (az.ex E9 _ _ r8) (rl.ex E9)⟩
        rw [eD8] at E9 R9
        exact ⟨m8, _, ((E16.trans E7).trans E8).trans E9, R9, eD8, by simp; omega, p8⟩
      · exact p8.elim
  · have e : i = xs.length := by omega
    subst e
    rw [List.drop_length, dcE] at q
    obtain ⟨_, s2⟩ := sim xs.length h2 m2 H' E3 R3 q.1
    refine .inl ⟨s2 rfl, k _ _ q.2 m2 H' _ (E1.trans E3) R3 (by rw [az]; exact ⟨lD, by rw [eD]⟩)⟩
end
def KTup (K : PySem.W.Frag) (a : Addr) (xs : List EV) : Prop := xs.all nq = true ∧ ∀ H, SqT K H a (xs.map toV)
theorem flats_toV {K : PySem.W.Frag} {m : Nat → Addr} {n : Nat} {H : Hp} : ∀ {xs : List EV}, xs.all nq = true → aC K m n H xs (xs.map toV)
  | [], _ => .nil
  | x :: xs, f => by
    simp only [List.all_cons, Bool.and_eq_true] at f
    refine .cons ?_ (flats_toV f.2)
    cases x <;> first | (rw [az]; rfl) | (simp [nq] at f; done)
theorem le_gtup {X : Cx} {a : Addr} {xs : List EV} {x : Str} {pos : Pos} (T : KTup X.K a xs) (hg : Gl X x) (hm : X.mg x = some (.ref a)) (hd : (x == ("__debug__" : Str)) = false := by decide) : LE X (.Name x pos) (lC (.ktup xs)) := by
  refine ⟨⟨fun pins s σ H Q I ⟨m, env, h, P, at_, t1, k⟩ => ld_glob I hg hm (s := s) ⟨.ref a, H, I, rfl, k _ _ t1 m H _ .refl at_.hp ?_⟩ hd⟩⟩
  rw [az]
  exact ⟨a, _, rfl, T.2 H, flats_toV T.1⟩
def relsB : List V → List Value → Bool
  | [], [] => true
  | v :: vs, u :: us => He.relB v u && relsB vs us
  | _, _ => false
theorem relsB_ok : ∀ {vs : List V} {us : List Value}, relsB vs us = true → Vals vs us
  | [], [], _ => .nil
  | v :: vs, u :: us, h => by
    obtain ⟨a, b⟩ := He.ba h
    exact .cons (He.relB_ok a) (relsB_ok b)
  | [], _ :: _, h => by cases h
  | _ :: _, [], h => by cases h
def tupB (K : PySem.W.Frag) (a : Addr) (xs : List EV) : Bool := xs.all nq && (match K.lookup a with
  | some ⟨.type c, _, .seq its _, _⟩ => decide (c = "tuple") && (decide (its.size ≤ sizeLine) && relsB (xs.map toV) its.toList)
  | _ => false)
theorem tupB_ok {K : PySem.W.Frag} {a : Addr} {xs : List EV} (h : tupB K a xs = true) : KTup K a xs := by
  obtain ⟨h1, h2⟩ := He.ba h
  refine ⟨h1, fun H => ?_⟩
  cases q : K.lookup a with
  | none => rw [q] at h2; cases h2
  | some o =>
    obtain ⟨oc, od, dt, osl⟩ := o
    rw [q] at h2
    cases oc with
    | type c =>
      cases dt with
      | seq its n =>
        obtain ⟨h3, h4⟩ := He.ba h2
        obtain ⟨h4, h5⟩ := He.ba h4
        have e : c = "tuple" := of_decide_eq_true h3
        subst e
        exact .inr ⟨_, its, n, q, rfl, rfl, of_decide_eq_true h4, relsB_ok h5⟩
      | _ => cases h2
    | _ => cases dt <;> cases h2
def sclsB (K : PySem.W.Frag) (C : Addr) : Bool := PySem.W.plainGet K C Str.empty && (PySem.W.isClsIn K C && (PySem.W.plainOver K C && He.eqO (PySem.W.findIn K (.ref C) "__setattr__") (some (some (.builtin "object.__setattr__")))))
theorem sclsB_ok {K : PySem.W.Frag} {C : Addr} (h : sclsB K C = true) : SlX.SCls K C := by
  obtain ⟨h1, h⟩ := He.ba h
  obtain ⟨h2, h⟩ := He.ba h
  obtain ⟨h3, h⟩ := He.ba h
  exact ⟨h1, h2, h3, He.eqO_ok h⟩
def slotB (K : PySem.W.Frag) (C : Addr) (f : Str) (i : Nat) : Bool := match PySem.W.findIn K (.ref C) f with
  | some (some (.ref p)) => He.eqO (PySem.W.specialIn K (.ref p) "__get__") (some (some (.builtin "member_descriptor.__get__"))) && (decide (PySem.W.takesIn K (.ref p) = some true) && (decide (PySem.W.typeIn K (.ref p) = some (.type "member_descriptor")) && (decide (PySem.W.slotIn K p C = some i) && decide (i < 1000))))
  | _ => false
theorem slotB_ok {K : PySem.W.Frag} {C : Addr} {f : Str} {i : Nat} (h : slotB K C f i = true) : ∃ p, SlX.Slot1 K C f p i := by
  unfold slotB at h
  split at h
  · rename_i p e
    obtain ⟨h1, h⟩ := He.ba h
    obtain ⟨h2, h⟩ := He.ba h
    obtain ⟨h3, h⟩ := He.ba h
    obtain ⟨h4, h⟩ := He.ba h
    exact ⟨p, e, He.eqO_ok h1, of_decide_eq_true h2, of_decide_eq_true h3, of_decide_eq_true h4, of_decide_eq_true h⟩
  · cases h
def isiOkB (K : PySem.W.Frag) (C : Addr) : Bool := PySem.W.plainGet K C "__class__" && (PySem.W.isClsIn K C && (He.eqO (PySem.W.findIn K (.ref C) "__class__") (some (some (.builtin "object.__class__"))) && (He.eqO (PySem.W.specialIn K (.builtin "object.__class__") "__get__") (some (some (.builtin "getset_descriptor.__get__"))) && (decide (PySem.W.takesIn K (.builtin "object.__class__") = some true) && (decide (PySem.W.mroIn K C (.type "object") = some true) && ["int", "bool", "str", "tuple", "dict", "list"].all fun T => decide (PySem.W.kitOne K (.ref C) (.type T) = some false))))))
theorem isiOkB_ok {K : PySem.W.Frag} {C : Addr} (h : isiOkB K C = true) : IsiOk K C := by
  obtain ⟨h1, h⟩ := He.ba h
  obtain ⟨h2, h⟩ := He.ba h
  obtain ⟨h3, h⟩ := He.ba h
  obtain ⟨h4, h⟩ := He.ba h
  obtain ⟨h5, h⟩ := He.ba h
  obtain ⟨h6, h⟩ := He.ba h
  exact ⟨h1, h2, He.eqO_ok h3, He.eqO_ok h4, of_decide_eq_true h5, of_decide_eq_true h6, fun T hT => of_decide_eq_true (List.all_eq_true.mp h T hT)⟩
theorem slot1 {K : PySem.W.Frag} {C : Addr} {f : Str} {i : Nat} (c : SlX.SCls K C) (s : ∃ p, SlX.Slot1 K C f p i) : SlotOf K f [(C, i)] := by
  intro q hq
  rw [List.mem_singleton.mp hq]
  exact ⟨c, s⟩
def lPairs : List (LT × LT) → En → EH → (List (EV × EV) → EH → Prop) → Prop
  | [], _, h, P => P [] h
  | (tk, tv) :: r, env, h, P => tk env h fun x h1 => tv env h1 fun y h2 => lPairs r env h2 fun ps h3 => P ((x, y) :: ps) h3
def RelPs (K : PySem.W.Frag) (m : Nat → Addr) (n : Nat) (H : Hp) : List (EV × EV) → List (V × V) → Prop
  | [], l => l = []
  | (x, y) :: r, l => ∃ a b l', l = (a, b) :: l' ∧ az K m n H x a ∧ az K m n H y b ∧ RelPs K m n H r l'
def liftP (K : PySem.W.Frag) (trs : List (LT × LT)) : List (TE × TE) := trs.map fun q => (up K q.1, up K q.2)
theorem pairs_sim {K : PySem.W.Frag} : ∀ (trs : List (LT × LT)) (σ : L2.St) (H : Hp) (m : Nat → Addr) (env : En) (h : EH) (P : List (EV × EV) → EH → Prop) (Q : List (V × V) → Hp → Prop), At K env h m σ H → lPairs trs env h P →
    (∀ ps h', P ps h' → ∀ (m' : Nat → Addr) (H' : Hp) vs, Ex K m h.length H m' h'.length H' → cJ K m' h' H' → RelPs K m' h'.length H' ps vs → Q vs H') → tPairs (liftP K trs) σ H Q
  | [], σ, H, m, env, h, P, Q, at_, p, k => k [] h p m H [] .refl at_.hp rfl
  | (tk, tv) :: r, σ, H, m, env, h, P, Q, at_, p, k => by
    refine ⟨m, env, h, _, at_, p, fun x h1 p1 m1 H1 u E1 R1 r1 => ⟨m1, env, h1, _, at_.ex E1 R1, p1, fun y h2 p2 m2 H2 w E2 R2 r2 => ?_⟩⟩
    refine pairs_sim r σ H2 m2 env h2 _ _ ((at_.ex E1 R1).ex E2 R2) p2 fun ps h3 p3 m3 H3 vs E3 R3 r3 => ?_
    exact k _ _ p3 m3 H3 _ ((E1.trans E2).trans E3) R3 ⟨u, w, vs, rfl, az.ex (E2.trans E3) _ _ r1, az.ex E3 _ _ r2, r3⟩
def dAll (ps : List (EV × EV)) : List (EV × EV) := ps.foldl (fun acc p => dPut acc p.1 p.2) []
theorem relPs_keys {K : PySem.W.Frag} {m : Nat → Addr} {n : Nat} {H : Hp} : ∀ {ps : List (EV × EV)} {vs : List (V × V)}, (∀ p ∈ ps, isKey p.1) → RelPs K m n H ps vs → ∃ kvs : List (L2.Key × V), vs = kvs.map (fun kv => (kV kv.1, kv.2)) ∧ bj K m n H ps kvs
  | [], vs, _, r => by rw [RelPs] at r; subst r; exact ⟨[], rfl, rfl⟩
  | (x, y) :: ps, vs, hk, r => by
    rw [RelPs] at r
    obtain ⟨a, b, l, rfl, ra, rb, r⟩ := r
    obtain ⟨k, rfl⟩ := key_of (hk (x, y) (by simp)) ra
    obtain ⟨kvs, rfl, r2⟩ := relPs_keys (fun p hp => hk p (List.mem_cons_of_mem _ hp)) r
    exact ⟨(k, b) :: kvs, rfl, by rw [bj]; exact ⟨k, b, kvs, rfl, ra, rb, r2⟩⟩
theorem relKV_merge {K : PySem.W.Frag} {m : Nat → Addr} {n : Nat} {H : Hp} : ∀ {ps : List (EV × EV)} {kvs : List (L2.Key × V)} {acc : List (EV × EV)} {l : List (L2.Key × V)}, (∀ p ∈ ps, isKey p.1) → bj K m n H ps kvs → bj K m n H acc l →
    bj K m n H (ps.foldl (fun acc p => dPut acc p.1 p.2) acc) (mergeK l kvs)
  | [], kvs, acc, l, _, r, ra => by rw [bj] at r; subst r; exact ra
  | (x, y) :: ps, kvs, acc, l, hk, r, ra => by
    rw [bj] at r
    obtain ⟨k, v, l', rfl, r1, r2, r⟩ := r
    rw [List.foldl_cons]
    show bj K m n H _ (mergeK (putK l k v) l')
    exact relKV_merge (fun p hp => hk p (List.mem_cons_of_mem _ hp)) r (bj.put r1 (hk (x, y) (by simp)) r2 ra)
def lDisp (trs : List (LT × LT)) : LT := fun env h P => lPairs trs env (h ++ [.dic []]) fun ps h2 => h2[h.length]? = some (.dic []) ∧ (∀ p ∈ ps, isKey p.1) ∧ ps.length ≤ 15 ∧ P (.ref h.length) (h2.set h.length (.dic (dAll ps)))
structure LPs (X : Cx) (pos : Pos) (keys : List (Option Expr)) (values : List Expr) (trs : List (LT × LT)) : Prop where
  pps : PPs X pos keys values (liftP X.K trs)
section
variable {X : Cx} {pos : Pos}
theorem lps_nil : LPs X pos [] [] [] := ⟨pps_nil⟩
theorem lps_cons {k v : Expr} {ks : List (Option Expr)} {vs : List Expr} {tk tv : LT} {trs : List (LT × LT)} (hk : LE X k tk) (hv : LE X v tv) (hr : LPs X pos ks vs trs) : LPs X pos (some k :: ks) (v :: vs) ((tk, tv) :: trs) := ⟨pps_cons hk.pe hv.pe hr.pps⟩
theorem le_disp {keys : List (Option Expr)} {values : List Expr} {trs : List (LT × LT)} (h : LPs X pos keys values trs) (hall : keys.all (·.isSome) = true := by rfl) (hl : keys.length = values.length := by rfl) (h0 : keys ≠ [] := by exact List.cons_ne_nil _ _) (h15 : keys.length ≤ 15 := by decide) :
    LE X (.Dict keys values pos) (lDisp trs) := by
  refine ⟨PE.imp (pe_disp h.pps hall hl h0 h15) fun σ H Q ⟨m, env, h, P, at_, t1, k⟩ p hp => ?_⟩
  have E : Ex X.K m h.length H (mput m h.length p) (h ++ [EO.dic []]).length (upd H p (.dK [])) := Ex.new hp
  have R : cJ X.K (mput m h.length p) (h ++ [EO.dic []]) (upd H p (.dK [])) := at_.hp.new hp ⟨[], upd_same, rfl⟩
  refine pairs_sim trs σ _ _ env _ _ _ (at_.ex E R) t1 fun ps h2 p2 m2 H2 vs E2 R2 r2 => ?_
  obtain ⟨e2, hk, h15, p2⟩ := p2
  have em : m2 h.length = p := (E2.eq _ (by simp)).trans kZ
  obtain ⟨l, a, rl⟩ := R2.obj _ _ e2
  rw [em] at a
  rw [bj] at rl
  subst rl
  obtain ⟨kvs, rfl, rk⟩ := relPs_keys hk r2
  have ll := bj.length rk
  refine ⟨a, kvs, rfl, by omega, ?_⟩
  have E3 := Ex.write (o := .dK (mergeK [] kvs)) (e' := EO.dic (dAll ps)) R2 e2
  have R3 := R2.write (o := .dK (mergeK [] kvs)) (e' := EO.dic (dAll ps)) e2 ⟨_, upd_same, relKV_merge hk (rk.ex E3) rfl⟩
  rw [em] at E3 R3
  have lt := E2.le
  simp only [List.length_append, List.length_singleton] at lt
  exact k _ _ p2 m2 _ _ ((E.trans E2).trans E3) R3 (by rw [az]; exact ⟨by simp; omega, by rw [em]⟩)
end
section
variable {X : Cx} {a b : Expr} {ta tb : LT} {p p2 q pos : Pos}
end
theorem u1 {k : Nat} {A : Around} (r : Room k A) : A.units + 1 < cLine := by have := r.un; omega
theorem u65 {k : Nat} {A : Around} (r : Room k A) : A.units + 65 < cLine := by have := r.un; omega
theorem sa_l {h : EH} {b : Nat} {xs : List EV} {i : Int} {v : EV} {k : Nat} {p : EH → Prop} (e : h[b]? = some (.lst xs)) (a : ixN xs.length i = some k) (q : p (h.set b (.lst (xs.set k v)))) : setA (.ref b) (.int i) v h p := by
  unfold setA; simp only [e]; exact set_l e a q
end Y
namespace Y
open PySem PySem.Spec PyProof.Rows L2 HT
section
variable {prog : Program} {w : World} {A : Around} {E : Value → Shared → Prop} {s : Shared}
end
end Y
namespace Y
open PySem PySem.Spec PyProof.Rows L2
end Y
namespace Y
open PySem PySem.Spec PyProof.Rows L2 PySem.W
section
variable {prog : Program} {w : World} {A : Around} {E : Value → Shared → Prop} {s : Shared} {x : Str} {t : Tok}
end
end Y
namespace Y
open PySem PySem.Spec PyProof.Rows L2
section
variable {X : Cx} {a b : Expr} {ta tb : LT} {pos : Pos} {rest : List Expr}
end
section
variable {X : Cx}
end
section
variable {X : Cx}
end
section
variable {X : Cx} {a b : Expr} {ta tb : LT} {p p2 q pos : Pos}
end
theorem fnG_none {P : Program} {w : World} {K : PySem.W.Frag} {mg : Str → Option Value} {base : Heap} {k : Nat} {f : Addr} {fd : FuncData} {ps : List Str} : FnG P w K mg base k f fd ps (fun _ _ _ => False) :=
  ⟨fun _ _ _ z => z.elim, fun A outer s H args us vs Q hr hG e0 hb r q => by
    obtain ⟨_, _, _, _, _, _, z, _⟩ := q
    exact z.elim⟩
end Y
namespace Y
open PySem PySem.Spec PyProof.Rows L2
mutual
def flatD : PyData → Bool
  | .none => true
  | .bool _ => true
  | .int _ => true
  | .str _ => true
  | .tuple xs => flatDs xs
  | .list _ => false
  | .dict _ => false
def flatDs : List PyData → Bool
  | [] => true
  | x :: xs => flatD x && flatDs xs
end
def kD : L2.Key → PyData
  | .inl i => .int i
  | .inr x => .str x
def dicD (ps : List (L2.Key × PyData)) : PyData := .dict (ps.map fun p => (kD p.1, p.2))
inductive DKV (h : EH) : List (EV × EV) → List (L2.Key × PyData) → Prop
  | nil : DKV h [] []
  | int {i : Int} {v : EV} {d : PyData} {r : List (EV × EV)} {ps : List (L2.Key × PyData)} : Dat h 50 v d → flatD d = true → DKV h r ps → DKV h ((.int i, v) :: r) ((.inl i, d) :: ps)
  | str {s : List Nat} {v : EV} {d : PyData} {r : List (EV × EV)} {ps : List (L2.Key × PyData)} : Dat h 50 v d → flatD d = true → DKV h r ps → DKV h ((.str s, v) :: r) ((.inr (S s), d) :: ps)
inductive DatE (h : EH) : EV → PyData → Prop
  | pl {v : EV} {d : PyData} : Dat h 55 v d → DatE h v d
  | dic {r : Nat} {kvs : List (EV × EV)} {ps : List (L2.Key × PyData)} : h[r]? = some (.dic kvs) → DKV h kvs ps → DatE h (.ref r) (dicD ps)
inductive DatEs (h : EH) : List EV → List PyData → Prop
  | nil : DatEs h [] []
  | cons {v : EV} {d : PyData} {vs : List EV} {ds : List PyData} : DatE h v d → DatEs h vs ds → DatEs h (v :: vs) (d :: ds)
inductive DatX (h : EH) : EV → PyData → Prop
  | el {v : EV} {d : PyData} : DatE h v d → DatX h v d
  | lst {r : Nat} {xs : List EV} {ds : List PyData} : h[r]? = some (.lst xs) → DatEs h xs ds → DatX h (.ref r) (.list ds)
abbrev DRow (K : PySem.W.Frag) (H : Hp) : List (L2.Key × V) → List (L2.Key × PyData) → Prop := Paired fun p q => p.1 = q.1 ∧ Dp K H p.2 q.2 ∧ flatD q.2 = true ∧ q.2.depth ≤ 50 ∧ q.2.plain = true
inductive DpE (K : PySem.W.Frag) (H : Hp) : V → PyData → Prop
  | pl {v : V} {d : PyData} : Dp K H v d → d.depth ≤ 55 → d.plain = true → DpE K H v d
  | dic {a : Addr} {l : List (L2.Key × V)} {ps : List (L2.Key × PyData)} : H a = some (.dK l) → DRow K H l ps → DpE K H (.ref a) (dicD ps)
inductive DpX (K : PySem.W.Frag) (H : Hp) : V → PyData → Prop
  | el {v : V} {d : PyData} : DpE K H v d → DpX K H v d
  | lst {a : Addr} {xs : List V} {ds : List PyData} : SqL K H a xs → Paired (DpE K H) xs ds → DpX K H (.ref a) (.list ds)
section
variable {K : PySem.W.Frag} {m : Nat → Addr} {H : Hp} {h : EH}
theorem kV_int {k : L2.Key} {i : Int} (e : kV k = .int i) : k = .inl i := by
  cases k with
  | inl j => simp only [kV] at e; cases e; rfl
  | inr x => simp [kV] at e
theorem kV_str {k : L2.Key} {x : Str} (e : kV k = .str x) : k = .inr x := by
  cases k with
  | inl j => simp [kV] at e
  | inr y => simp only [kV] at e; cases e; rfl
theorem DKV.row (R : cJ K m h H) : ∀ {kvs : List (EV × EV)} {ps : List (L2.Key × PyData)} {l : List (L2.Key × V)}, DKV h kvs ps → bj K m h.length H kvs l → DRow K H l ps
  | _, _, l, .nil, r => by
    have r' : l = [] := r
    subst r'; exact .nil
  | _, _, l, .int dv fd dr, r => by
    obtain ⟨k', v, l', rfl, rk, rv, rr⟩ := r
    rw [az] at rk
    have e := kV_int rk
    subst e
    exact .cons ⟨rfl, Dat.dp R _ _ _ _ dv rv, fd, (Dat.dep _ _ _ dv).1, (Dat.dep _ _ _ dv).2⟩ (DKV.row R dr rr)
  | _, _, l, .str dv fd dr, r => by
    obtain ⟨k', v, l', rfl, rk, rv, rr⟩ := r
    rw [az] at rk
    have e := kV_str rk
    subst e
    exact .cons ⟨rfl, Dat.dp R _ _ _ _ dv rv, fd, (Dat.dep _ _ _ dv).1, (Dat.dep _ _ _ dv).2⟩ (DKV.row R dr rr)
theorem DatE.dp (R : cJ K m h H) {v : EV} {x : V} {d : PyData} (a : DatE h v d) (r : az K m h.length H v x) : DpE K H x d := by
  cases a with
  | pl a => exact .pl (Dat.dp R _ _ _ _ a r) (Dat.dep _ _ _ a).1 (Dat.dep _ _ _ a).2
  | dic e b =>
    rw [az] at r
    obtain ⟨_, rfl⟩ := r
    obtain ⟨l, hl, rl⟩ := R.obj _ _ e
    exact .dic hl (DKV.row R b rl)
theorem DatEs.dp (R : cJ K m h H) : ∀ {vs : List EV} {xs : List V} {ds : List PyData}, DatEs h vs ds → aC K m h.length H vs xs → Paired (DpE K H) xs ds
  | _, _, _, .nil, r => by rw [aC] at r; subst r; exact .nil
  | _, _, _, .cons a b, r => by
    rw [aC] at r
    obtain ⟨v, l, rfl, r1, r2⟩ := r
    exact .cons (DatE.dp R a r1) (DatEs.dp R b r2)
theorem DatX.dp (R : cJ K m h H) {v : EV} {x : V} {d : PyData} (a : DatX h v d) (r : az K m h.length H v x) : DpX K H x d := by
  cases a with
  | el a => exact .el (DatE.dp R a r)
  | lst e b =>
    rw [az] at r
    obtain ⟨_, rfl⟩ := r
    obtain ⟨vs, hv, t⟩ := R.obj _ _ e
    exact .lst (SqL.of hv) (DatEs.dp R b t)
end
mutual
theorem flat_as {h : Heap} : ∀ (d : PyData) (u : Value) (as : List Addr), flatD d = true → Reads h u d as → as = []
  | .none, _, _, _, r => by cases r; rfl
  | .bool _, _, _, _, r => by cases r; rfl
  | .int _, _, _, _, r => by cases r; rfl
  | .str _, _, _, _, r => by cases r; rfl
  | .list _, _, _, f, _ => by simp [flatD] at f
  | .dict _, _, _, f, _ => by simp [flatD] at f
  | .tuple xs, _, _, f, r => by
    cases r with
    | tuple h1 h2 h3 h4 => exact flats_as xs _ _ (by simpa [flatD] using f) h4
theorem flats_as {h : Heap} : ∀ (ds : List PyData) (us : List Value) (as : List Addr), flatDs ds = true → ReadsAll h us ds as → as = []
  | [], _, _, _, r => by cases r; rfl
  | d :: ds, _, _, f, r => by
    have f' : flatD d = true ∧ flatDs ds = true := by simpa [flatDs] using f
    cases r with
    | cons r1 r2 => rw [flat_as d _ _ f'.1 r1, flats_as ds _ _ f'.2 r2]; rfl
end
section
variable {X : Cx} {pins : List (Addr × Obj)} {σ : L2.St} {H : Hp} {s : Shared}
theorem row_reads (I : Inv X pins σ H s) : ∀ {l : List (L2.Key × V)} {ps : List (L2.Key × PyData)} {vs : List (L2.Key × Value)} {es : List DictEntry}, DRow X.K H l ps → KV l vs → Pairs (mixKind X.prog X.w) es vs →
    ReadsAll s.heap (es.map (·.key)) (ps.map fun p => kD p.1) [] ∧ ReadsAll s.heap (es.map (·.val)) (ps.map (·.2)) []
  | _, _, _, _, .nil, kv, pr => by
    cases kv
    cases pr
    exact ⟨.nil, .nil⟩
  | _, _, _, _, .cons a b, kv, pr => by
    cases kv with
    | cons k1 k2 =>
      cases pr with
      | cons q1 q2 p2 =>
        obtain ⟨i1, i2⟩ := row_reads I b k2 p2
        obtain ⟨e1, d1, f1, _⟩ := a
        obtain ⟨e2, r2⟩ := k1
        obtain ⟨as, rd⟩ := Dp.reads I _ _ _ d1 r2
        have has := flat_as _ _ _ f1 rd
        subst has
        refine ⟨?_, ?_⟩
        · refine ReadsAll.cons (as := []) (bs := []) ?_ i1
          rcases keyIs_shape (k := _) (v := _) q1 with ⟨i, t, hk, hv⟩ | ⟨x, t, hk, hv⟩
          · dsimp only; rw [hv, ← e1, e2, hk]; exact .int i t
          · dsimp only; rw [hv, ← e1, e2, hk]; exact .str x t
        · refine ReadsAll.cons (as := []) (bs := []) ?_ i2
          dsimp only; rw [q2]; exact rd
theorem DpE.reads (I : Inv X pins σ H s) {v : V} {u : Value} {d : PyData} (a : DpE X.K H v d) (r : RelV v u) : ∃ as, Reads s.heap u d as ∧ (d.hasDict = true → sysModules ∉ as) := by
  cases a with
  | pl a _ pd =>
    obtain ⟨as, rd⟩ := Dp.reads I _ _ _ a r
    exact ⟨as, rd, fun z => by rw [nZ _ pd] at z; cases z⟩
  | @dic a0 l0 ps0 e b =>
    cases (show u = Value.ref _ from r)
    obtain ⟨_, sm, vs, kv, o, es, ep, h1, h2, h3, _, hp, _⟩ := (show ObjOk X.prog X.w H s.heap _ (.dK _) from I.hok _ _ e)
    obtain ⟨i1, i2⟩ := row_reads I b kv hp
    refine ⟨_, .dict h1 h2.1 h3 (by rw [List.map_map]; exact i1) (by rw [List.map_map]; exact i2), fun _ z => ?_⟩
    have z' : sysModules = a0 := by simpa using z
    rw [← z'] at sm
    simp at sm
theorem row_depth {K : PySem.W.Frag} : ∀ {l : List (L2.Key × V)} {ps : List (L2.Key × PyData)}, DRow K H l ps → PyData.depthKv (ps.map fun p => (kD p.1, p.2)) ≤ 50
  | _, _, .nil => by simp [PyData.depthKv]
  | _, _, .cons (b := qq) a b => by
    have q := row_depth b
    obtain ⟨_, _, _, d1, _⟩ := a
    simp only [List.map_cons, PyData.depthKv]
    have : (kD qq.1).depth ≤ 1 := by cases qq.1 <;> simp [kD, PyData.depth]
    omega
theorem DpE.depth {K : PySem.W.Frag} {v : V} {d : PyData} (a : DpE K H v d) : d.depth ≤ 55 := by
  cases a with
  | pl _ dd _ => exact dd
  | dic _ b =>
    have q := row_depth b
    unfold dicD
    simp only [PyData.depth]
    omega
theorem dpEs_depth {K : PySem.W.Frag} : ∀ {xs : List V} {ds : List PyData}, Paired (DpE K H) xs ds → PyData.depthAll ds ≤ 55
  | _, _, .nil => by simp [PyData.depthAll]
  | _, _, .cons a b => by
    have q := dpEs_depth b
    have := a.depth
    simp only [PyData.depthAll]
    omega
theorem reprAll (I : Inv X pins σ H s) : ∀ {xs : List V} {ds : List PyData} {us : List Value}, Paired (DpE X.K H) xs ds → Vals xs us → PyData.showableAll ds = true → (∀ t ∈ PyData.shownAll ds, t.length ≤ sizeLine) →
    ∃ as bs, ReadsAll s.heap us ds as ∧ ReadAtMost s.heap (PyData.depthAll ds) bs ∧ ReprAllK X.prog X.w bs s.heap (PyData.depthAll ds) us (PyData.shownAll ds)
  | _, _, _, .nil, r, _, _ => by
    cases r
    exact ⟨[], [], .nil, (fun _ h => nomatch h), by simp only [PyData.shownAll]; exact .nil⟩
  | _, _, _, .cons (b := d) (l₂ := ds) a b, r, hs, hz => by
    cases r with
    | cons r1 r2 =>
      have hs' : d.showable = true ∧ PyData.showableAll ds = true := by simpa [PyData.showableAll] using hs
      obtain ⟨as, rd, hsm⟩ := a.reads I r1
      obtain ⟨b1, hb1, k1⟩ := ReprK.of_reads (prog := X.prog) (w := X.w) rd hs'.1 hsm (hz _ (by simp only [PyData.shownAll]; exact List.mem_cons_self ..))
      obtain ⟨as2, b2, rd2, hb2, k2⟩ := reprAll I b r2 hs'.2 (fun t ht => hz t (by simp only [PyData.shownAll]; exact List.mem_cons_of_mem _ ht))
      refine ⟨_, b1 ++ b2, .cons rd rd2, ?_, ?_⟩
      · intro z hm
        simp only [PyData.depthAll]
        rcases List.mem_append.mp hm with hm | hm
        · obtain ⟨d', as', r', hd'⟩ := hb1 z hm
          exact ⟨d', as', r', Nat.le_trans hd' (Nat.le_max_left _ _)⟩
        · obtain ⟨d', as', r', hd'⟩ := hb2 z hm
          exact ⟨d', as', r', Nat.le_trans hd' (Nat.le_max_right _ _)⟩
      · simp only [PyData.depthAll, PyData.shownAll]
        exact .cons ((k1.more fun z hb => List.mem_append_left _ hb).level_le (Nat.le_max_left _ _)) (k2.more_le (fun z hb => List.mem_append_right _ hb) (Nat.le_max_right _ _))
end
def rReprX (K : PySem.W.Frag) : List V → Hp → VK → Prop := fun xs H Q => ∃ x d, xs = [x] ∧ DpX K H x d ∧ d.showable = true ∧ d.shown.length ≤ sizeLine ∧ Q (.str d.shown) H
def reprX : LC := fun vs h P => match vs with
  | [v] => ∃ d, DatX h v d ∧ d.showable = true ∧ d.shown.length ≤ sizeLine ∧ P (.str d.shown.cps.toList) h
  | _ => False
section
variable {X : Cx}
theorem call_reprX (hG : X.A.guards = some []) (hu : X.A.units + 64 < cLine) : CallR X (.builtin "repr") (rReprX X.K) := by
  intro pins s σ H xs us Q I r q
  obtain ⟨x, d, rfl, hd, sd, zd, q⟩ := q
  obtain ⟨u, rfl, ru⟩ := vals1 r
  cases hd with
  | el a =>
    cases a with
    | pl a dd pd => exact call_reprD hG hu pins s σ H [x] [u] Q I r ⟨x, d, rfl, a, by omega, pd, sd, zd, q⟩
    | dic e b =>
      cases (show u = Value.ref _ from ru)
      obtain ⟨as, rd, hsm⟩ := (DpE.dic e b).reads I rfl
      have dd := (DpE.dic e b).depth
      exact PySem.repr_of_reads' rd sd hsm hG (by omega) (fun _ _ e => e) (fun h' u tk kk => ⟨.str _, H, I.kept kk, ⟨_, rfl⟩, q⟩) zd
  | lst hs b =>
    cases (show u = Value.ref _ from ru)
    rename_i a ys ds
    obtain ⟨its, rv, ⟨o, n, ho, hc, hdt, hda⟩, hz⟩ := I.list hs
    have dd := dpEs_depth b
    have zd' : (listText (PyData.shownAll ds)).length ≤ sizeLine := by simpa only [PyData.shown] using zd
    obtain ⟨as, bs, rd, hb, hk⟩ := reprAll I b rv (by simpa [PyData.showable] using sd) (fun t ht => Nat.le_trans (listText_mem_le ht) zd')
    have rda : Reads s.heap (.ref a) (.list ds) (a :: as) := .list ho hc hda (by simpa using rd)
    have hna : a ∉ bs := not_mem_of_deeper rda (by simp only [PyData.depth]; omega) hb
    simp only [PyData.shown] at q
    have fin : ∀ h' u tk, (∀ b o, s.heap.get? b = some o → h'.get? b = some o) → ∃ v H', Inv X pins σ H' { s with heap := h', toks := tk } ∧ RelV v (.str (listText (PyData.shownAll ds)) u) ∧ Q v H' := fun h' u tk kk => ⟨.str _, H, I.kept kk, ⟨_, rfl⟩, q⟩
    refine call_repr_slot (T := "list") (idr := "list.__repr__") (by omega) ⟨o, ho, hc⟩ F.slot_list_repr.toG ?_
    cases its with
    | nil =>
      cases rd
      simp only [PyData.shownAll, listText_nil] at fin
      exact call_list_repr_empty ⟨o, ho, hc⟩ ho hda ⟨_, _, rfl, fin s.heap _ _ fun _ _ e => e⟩
    | cons y l =>
      exact call_list_reprK ho hc hda hna (by simpa using hk.length_eq) (fun i y e => hk.item i y (by simpa using e)) hG (fun b _ => Clear.nil b) (by show X.A.units + 1 + (_ + 1) < cLine; omega) (fun _ _ e => e)
        (fun h' u tk kk => ⟨_, _, rfl, fin h' u tk kk⟩) zd'
theorem lc_reprX (hG : X.A.guards = some []) (hu : X.A.units + 64 < cLine) : jX X (.builtin "repr") reprX := by
  refine ⟨_, call_reprX hG hu, ?_⟩
  intro m h H vs xs P Q R r0 q k
  unfold reprX at q
  split at q
  · obtain ⟨v, rfl, r⟩ := r0.one_inv
    obtain ⟨d, dd, sd, zd, p⟩ := q
    exact ⟨v, d, rfl, dd.dp R r, sd, zd, k.same R p (by rw [az])⟩
  · exact q.elim
end
section
variable {X : Cx} {pins : List (Addr × Obj)} {σ : L2.St} {H : Hp} {s : Shared}
end
section
variable {X : Cx}
end
end Y
namespace Y
open PySem PySem.Spec PyProof.Rows L2
section
variable {P : Program} {w : World} {K : PySem.W.Frag} {A : Around} {hp : Heap} {g : Array GenState} {dr : Drawn} {tk : Nat} {os : OsState} {C fI e t0 : Addr} {x f : Str} {u : Value} {R : Result → Shared → Prop}
end
section
variable {X : Cx} {C : Addr} {x f : Str}
end
section
variable {K : PySem.W.Frag} {m m' : Nat → Addr} {n n' : Nat} {H H' : Hp} {h h' : EH}
end
abbrev EW := Addr → List (Str × EV) → En → EH → Prop
abbrev ED := Addr → List (Str × EV) → EH → Prop
section
variable {X : Cx} {W : EW}
end
abbrev LSpX := List EV → EH → EK → ED → Prop
section
variable {X : Cx} {k : Nat} {f : Addr} {fd : FuncData} {ps : List Str} {sp : LSpX} {W : EW} {x : Str} {p pos : Pos} {e : Expr} {es : List Expr} {t : LA}
end
section
variable {X : Cx}
end
section
variable {K : PySem.W.Frag} {m m' : Nat → Addr} {n n' : Nat} {H H' : Hp} {h h' : EH}
end
section
variable {X : Cx}
end
section
variable {X : Cx}
end
section
variable {K : PySem.W.Frag} {m : Nat → Addr} {h : EH} {H : Hp}
end
section
variable {K : PySem.W.Frag} {m : Nat → Addr} {h : EH} {H : Hp}
end
section
variable {M : Model} {A : Around} {E : Value → Shared → Prop} {s : Shared} {env : Env}
end
section
variable {X : Cx} {pos pos' apos : Pos} {o e : Expr} {es : List Expr} {to te : LT} {t : LA} {W : EW}
end
end Y
namespace PySem
open Sem (wp)
set_option maxHeartbeats 1000000 in
theorem meets_enumerate_new1 {v : Value} {o : Obj} {H : Heap → Prop} (B : Begins v o H) :
    Meets (Builtin.«enumerate.__new__» ⟨[.type "enumerate", v], []⟩) (fun _ R s => H s.heap ∧
      R (.ok (.ret (.ref (s.heap.push o).objs.size))) { s with heap := (s.heap.push o).push { cls := .type "enumerate", data := .fields #[.none, .bool false, .ref s.heap.objs.size, rawInt 0, .none, .none] } }) :=
  .of_wp fun prog w A R s h => by
    obtain ⟨hp, g, d, tk, os⟩ := s; obtain ⟨h1, h⟩ := h
    have hsub := sub_enumerate
    have q1 : ∀ {A' : Around} {E : Value → Shared → Prop} {Q : Value → Shared → Prop}, Q (.ref hp.objs.size) ⟨hp.push o, g, d, tk, os⟩ → wpAny (model prog w) A' (pyIter v) Q E ⟨hp, g, d, tk, os⟩ :=
      fun q => B.iter prog w _ _ ⟨hp, g, d, tk, os⟩ _ h1 q
    wp_walk using q1
    refine wpAny_stack_any fun st => wpAny_pure ?_
    split
    · rename_i c _ _ _ _ _
      cases (c == Value.type "enumerate")
      · wp_walk using q1
        exact ⟨_, rfl, h⟩
      · wp_walk using q1
        exact ⟨_, rfl, h⟩
    · wp_walk using q1
      exact ⟨_, rfl, h⟩
section
variable {prog : Program} {w : World} {A : Around} {E : Value → Shared → Prop} {s : Shared}
end
end PySem
namespace Y
open PySem PySem.Spec PyProof.Rows L2
section
variable {X : Cx}
end
end Y
namespace Y
open PySem PySem.Spec PyProof.Rows L2
set_option maxHeartbeats 4000000 in
theorem tuple_mul1 (l : Addr) (items : Array Value) (n : Nat) (dd : Option Addr) (sl : Array (Option Value)) (u : Tok) :
    Meets (Builtin.«tuple.__mul__» ⟨[.ref l, .int 1 u], []⟩) (fun _ R s => s.heap.get? l = some { cls := .type "tuple", dict := dd, data := .seq items n, slots := sl } ∧
      R (.ok (.ret (Value.ref l))) s) :=
  .of_wp fun prog w A R s h => by
    obtain ⟨hp, g, d, tk, os⟩ := s
    obtain ⟨hl, h⟩ := h
    have f1 := AutoSeq1.idx_int
    have c0 : (decide ((1 : Int) < -(2 ^ 63)) || decide ((1 : Int) ≥ 2 ^ 63)) = false := by decide
    have c1 : (items.isEmpty || ((1 : Int) == 1)) = true := by simp
    wp_walk using wpAny_loadPart' hl
    repeat (first
      | (refine wpAny_ite_false (decide_eq_false (by rw [c0]; exact Bool.false_ne_true)) ?_; wp_walk using wpAny_loadPart' hl)
      | (refine wpAny_ite_true (decide_eq_true (by rw [c1])) ?_; wp_walk using wpAny_loadPart' hl))
    exact ⟨_, rfl, h⟩
set_option maxHeartbeats 4000000 in
theorem tuple_mul0 (l : Addr) (items : Array Value) (n : Nat) (dd : Option Addr) (sl : Array (Option Value)) (u : Tok) (c : items.isEmpty = false) :
    Meets (Builtin.«tuple.__mul__» ⟨[.ref l, .int 0 u], []⟩) (fun _ R s => s.heap.get? l = some { cls := .type "tuple", dict := dd, data := .seq items n, slots := sl } ∧
      R (.ok (.ret (Value.ref s.heap.objs.size))) { s with heap := s.heap.push { cls := Value.type "tuple", data := Data.seq #[] }, toks := s.toks }) :=
  .of_wp fun prog w A R s h => by
    obtain ⟨hp, g, d, tk, os⟩ := s
    obtain ⟨hl, h⟩ := h
    have f1 := AutoSeq1.idx_int
    have c0 : (decide ((0 : Int) < -(2 ^ 63)) || decide ((0 : Int) ≥ 2 ^ 63)) = false := by decide
    have c1 : (items.isEmpty || ((0 : Int) == 1)) = false := by rw [c]; rfl
    have c2 : (decide ((0 : Int) ≤ 0) || items.isEmpty) = true := by simp
    wp_walk using wpAny_loadPart' hl
    repeat (first
      | (refine wpAny_ite_false (decide_eq_false (by rw [c0]; exact Bool.false_ne_true)) ?_; wp_walk using wpAny_loadPart' hl)
      | (refine wpAny_ite_false (decide_eq_false (by rw [c1]; exact Bool.false_ne_true)) ?_; wp_walk using wpAny_loadPart' hl)
      | (refine wpAny_ite_true (decide_eq_true (by rw [c2])) ?_; wp_walk using wpAny_loadPart' hl))
    exact ⟨_, rfl, h⟩
section
variable {X : Cx}
end
end Y
namespace Y
open PySem PySem.Spec PyProof.Rows L2
def obsZ (n : Nat) (fa : List He.Fa) (fn : List He.DefD) (ts : List He.Tab) (ex : PySem.W.Frag → Bool) (g : Addr → Option Obj) : He.AlX := (He.obsT fa fn ts (He.frT g (List.range n)), ex (He.frT g (List.range n)))
def hookZ (n : Nat) (fa : List He.Fa) (fn : List He.DefD) (ts : List He.Tab) (ex : PySem.W.Frag → Bool) : PySem.W.Hook where
  α := He.AlX
  obs := fun s => obsZ n fa fn ts ex s.heap.get?
  val := fun w => He.valX fn ts w
  says := fun w h => ∃ K : PySem.W.Frag, K.In h ∧ He.SaysX fa fn ts [] ex w h K
  of := fun w s e => ⟨He.frT s.heap.get? (List.range n), He.frT_in, { t := congrArg (fun z : He.AlX => z.1) e, more := congrArg (fun z : He.AlX => z.2) e, hd := fun p hp => by simp at hp, out := fun p hp => by simp at hp, empty := fun p hp => by simp at hp }⟩
  keeps := fun _ _ _ ⟨K, hK, c⟩ k => ⟨K, PySem.W.Frag.In.keeps hK k, ⟨c.t, c.more, c.hd, c.out, fun p hp => k _ _ (c.empty p hp)⟩⟩
theorem obsZ_eq {n : Nat} {fa : List He.Fa} {fn : List He.DefD} {ts : List He.Tab} {ex : PySem.W.Frag → Bool} {g : Addr → Option Obj} {s : Shared} (h : ∀ a, g a = s.heap.get? a) : obsZ n fa fn ts ex g = (hookZ n fa fn ts ex).obs s := by
  have e : g = s.heap.get? := funext h
  rw [e] <;> rfl
end Y
namespace Y
open PySem PySem.Spec PyProof.Rows L2
open AutoSeq1 (wpAny_loadPart')
section
variable {X : Cx}
def rReprT (K : PySem.W.Frag) : List V → Hp → VK → Prop := fun xs H Q => ∃ a ys ds, xs = [.ref a] ∧ SqT K H a ys ∧ Paired (DpE K H) ys ds ∧ PyData.showable (.tuple ds) = true ∧ (PyData.shown (.tuple ds)).length ≤ sizeLine ∧ Q (.str (PyData.shown (.tuple ds))) H
def reprW : LC := fun vs h P => match vs with
  | [v] => (∃ xs ds, v = .tup xs ∧ DatEs h xs ds ∧ PyData.showable (.tuple ds) = true ∧ (PyData.shown (.tuple ds)).length ≤ sizeLine ∧ P (.str (PyData.shown (.tuple ds)).cps.toList) h) ∨ reprX [v] h P
  | _ => False
theorem call_reprT (hG : X.A.guards = some []) (hu : X.A.units + 64 < cLine) : CallR X (.builtin "repr") (rReprT X.K) := by
  intro pins s σ H xs us Q I r q
  obtain ⟨a, ys, ds, rfl, hT, b, sd, zd, q⟩ := q
  obtain ⟨u, rfl, ru⟩ := vals1 r
  cases (show u = Value.ref a from ru)
  obtain ⟨its, rv, ⟨o, ho, hc, n, hda⟩, hz⟩ := I.tuple hT
  have dd := dpEs_depth b
  have zd' : (tupleText (PyData.shownAll ds)).length ≤ sizeLine := by simpa only [PyData.shown] using zd
  obtain ⟨as, bs, rd, hb, hk⟩ := reprAll I b rv (by simpa [PyData.showable] using sd) (fun t ht => Nat.le_trans (tupleText_mem_le ht) zd')
  have rda : Reads s.heap (.ref a) (.tuple ds) as := .tuple ho hc hda (by simpa using rd)
  have hna : a ∉ bs := not_mem_of_deeper rda (by simp only [PyData.depth]; omega) hb
  simp only [PyData.shown] at q
  refine call_repr_slot (T := "tuple") (idr := "tuple.__repr__") (by omega) ⟨o, ho, hc⟩ F.slot_tuple_repr ?_
  exact call_tuple_reprK ho hc hda hna (by simpa using hk) hG (fun b _ => Clear.nil b) (by show X.A.units + 1 + (_ + 1) < cLine; omega) (fun _ _ e => e)
    (fun h' u tk kk => ⟨_, _, rfl, ⟨.str _, H, I.kept kk, ⟨_, rfl⟩, q⟩⟩) zd'
theorem lc_reprW (hG : X.A.guards = some []) (hu : X.A.units + 64 < cLine) : jX X (.builtin "repr") reprW := by
  obtain ⟨r0, h1, h2⟩ := lc_reprX (X := X) hG hu
  refine ⟨fun xs H Q => rReprT X.K xs H Q ∨ r0 xs H Q, ?_, ?_⟩
  · intro pins s σ H xs us Q I r q
    rcases q with q | q
    · exact call_reprT hG hu pins s σ H xs us Q I r q
    · exact h1 pins s σ H xs us Q I r q
  · intro m h H vs xs P Q R rr q k
    unfold reprW at q
    split at q
    · rename_i v
      rcases q with ⟨ys, ds, rfl, dd, sd, zd, p⟩ | q
      · obtain ⟨x, rfl, rx⟩ := rr.one_inv
        rw [az] at rx
        obtain ⟨a, us, rfl, ha, rs⟩ := rx
        exact .inl ⟨a, us, ds, rfl, SqT.of ha, dd.dp R rs, sd, zd, k.same R p (by rw [az])⟩
      · exact .inr (h2 m h H [v] xs P Q R rr q k)
    · exact q.elim
end
end Y
namespace Y
open PySem PySem.Spec PyProof.Rows L2
section
variable {X : Cx} {W : EW}
end
section
variable {X : Cx}
end
section
variable {K : PySem.W.Frag} {m' : Nat → Addr} {H' : Hp} {h' : EH}
end
section
variable {X : Cx}
end
section
variable {X : Cx} {a b : Expr} {t : TA} {ta : LA} {p1 p2 p3 pos : Pos}
end
section
variable {X : Cx} {a b : Expr} {ta : LA} {p1 p2 p3 pos : Pos}
end
theorem vals_ints : ∀ {ss : List Int} {us : List Value}, Vals (ss.map V.int) us → IntsAre us ss
  | [], us, r => by rw [List.map_nil] at r; cases r; exact .nil
  | s :: ss, us, r => by
    rw [List.map_cons] at r
    cases r with
    | cons h t =>
      obtain ⟨k, rfl⟩ := h
      exact .cons _ _ (vals_ints t)
section
variable {X : Cx}
end
section
variable {X : Cx}
end
section
variable {K : PySem.W.Frag} {m : Nat → Addr} {H : Hp} {h : EH}
end
section
variable {X : Cx} {pins : List (Addr × Obj)} {σ : L2.St} {H : Hp} {s : Shared}
end
section
variable {X : Cx}
end
section
variable {X : Cx}
def rT0 (K : PySem.W.Frag) : R2 := fun x y H Q => ∃ a b xs, x = .ref a ∧ y = .ref b ∧ SqT K H a xs ∧ SqT K H b [] ∧ Q (.bl (decide (xs = []))) H
theorem op_t0 (hu : X.A.units + 64 < cLine) : OpR X (compareOp .Eq) (rT0 X.K) := by
  intro pins s σ H x y v u Q I rx ry h
  obtain ⟨a, b, xs, rfl, rfl, h1, h2, q⟩ := h
  cases (show v = Value.ref a from rx)
  cases (show u = Value.ref b from ry)
  obtain ⟨us, r1, t1, _⟩ := I.tuple h1
  obtain ⟨vs, r2, t2, _⟩ := I.tuple h2
  cases r2
  refine PySem.W.eq_tuplesT (n := 0) (e := fun _ => true) t1 t2 (fun j h1 h2 => by simp at h2) (by omega) ⟨.bl _, H, I, rfl, ?_⟩
  have : ((List.range (min us.toArray.size (#[] : Array Value).size)).all (fun _ => true) && us.toArray.size == (#[] : Array Value).size) = decide (xs = []) := by
    cases r1 <;> simp
  rw [this]
  exact q
def eqT0 : LO := fun v w h P => (∃ xs, v = .tup xs ∧ w = .tup [] ∧ P (.bl (decide (xs = []))) h) ∨ eqE false v w h P
theorem lo_eqT0 (hu : X.A.units + 64 < cLine) : o7 X (compareOp .Eq) eqT0 := by
  obtain ⟨r, h1, h2⟩ := gD (X := X) hu
  refine ⟨_, OpR.or (op_t0 hu) h1, ?_⟩
  intro m h H v w x y P Q R rx ry q k
  rcases q with ⟨xs, rfl, rfl, q⟩ | q
  · rw [az] at rx
    rw [az] at ry
    obtain ⟨a, us, rfl, ha, rs⟩ := rx
    obtain ⟨b, vs, rfl, hb, rt⟩ := ry
    rw [aC] at rt
    subst rt
    have e : decide (xs = []) = decide (us = []) := by
      have := rs.length
      cases us <;> cases xs <;> simp at this ⊢
    rw [e] at q
    exact .inl ⟨a, b, us, rfl, rfl, SqT.of ha, SqT.of hb, k.same R q (by rw [az])⟩
  · exact .inr (h2 m h H v w x y P Q R rx ry q k)
end
section
variable {X : Cx} {pos p : Pos} {e : Expr} {es : List Expr} {t : LA} {W : EW} {k : Nat} {g C : Addr} {fd : FuncData} {ps : List Str} {sp : LSpX} {x : Str}
end
def SysK (K : PySem.W.Frag) : Prop := ∃ o, K.lookup sysModules = some o ∧ o.cls = .type "dict"
def sysB (K : PySem.W.Frag) : Bool := match K.lookup sysModules with
  | some o => match o.cls with
    | .type t => decide (t = "dict")
    | _ => false
  | none => false
theorem sysB_ok {K : PySem.W.Frag} (h : sysB K = true) : SysK K := by
  unfold sysB at h
  split at h
  · rename_i o e
    split at h
    · rename_i t e2
      have := of_decide_eq_true h
      subst this
      exact ⟨o, e, e2⟩
    · cases h
  · cases h
def LeafD : EV → PyData → Prop
  | .non, d => d = .none
  | .bl b, d => d = .bool b
  | .int i, d => d = .int i
  | .str s, d => d = .str (S s)
  | _, _ => False
def keyE : L2.Key → EV
  | .inl i => .int i
  | .inr x => .str x.cps.toList
def DatD (h : EH) : Nat → EV → PyData → Prop
  | 0, v, d => LeafD v d
  | n + 1, v, d => LeafD v d ∨ (∃ xs ds, (v = .tup xs ∨ v = .ktup xs) ∧ d = .tuple ds ∧ Paired (DatD h n) xs ds) ∨ (∃ r xs ds, v = .ref r ∧ h[r]? = some (.lst xs) ∧ d = .list ds ∧ Paired (DatD h n) xs ds) ∨
    (∃ r kvs ps, v = .ref r ∧ h[r]? = some (.dic kvs) ∧ d = dicD ps ∧ Paired (fun (p : EV × EV) (q : L2.Key × PyData) => p.1 = keyE q.1 ∧ DatD h n p.2 q.2) kvs ps)
def LeafP : V → PyData → Prop
  | .non, d => d = .none
  | .bl b, d => d = .bool b
  | .int i, d => d = .int i
  | .str s, d => d = .str s
  | _, _ => False
def DpD (K : PySem.W.Frag) (H : Hp) : Nat → V → PyData → Prop
  | 0, v, d => LeafP v d
  | n + 1, v, d => LeafP v d ∨ (∃ a xs ds, v = .ref a ∧ SqT K H a xs ∧ d = .tuple ds ∧ Paired (DpD K H n) xs ds) ∨ (∃ a xs ds, v = .ref a ∧ SqL K H a xs ∧ d = .list ds ∧ Paired (DpD K H n) xs ds) ∨
    (∃ a l ps, v = .ref a ∧ H a = some (.dK l) ∧ d = dicD ps ∧ Paired (fun (p : L2.Key × V) (q : L2.Key × PyData) => p.1 = q.1 ∧ DpD K H n p.2 q.2) l ps)
section
variable {K : PySem.W.Frag} {m : Nat → Addr} {H : Hp} {h : EH}
theorem LeafD.dp {v : EV} {x : V} {d : PyData} (a : LeafD v d) (r : az K m h.length H v x) : LeafP x d := by
  cases v <;> first
    | exact a.elim
    | (rw [az] at r; subst r; exact a)
theorem pairs_dp {n : Nat} (ih : ∀ (v : EV) (x : V) (d : PyData), DatD h n v d → az K m h.length H v x → DpD K H n x d) : ∀ {vs : List EV} {xs : List V} {ds : List PyData}, Paired (DatD h n) vs ds → aC K m h.length H vs xs → Paired (DpD K H n) xs ds
  | _, _, _, .nil, r => by rw [aC] at r; subst r; exact .nil
  | _, _, _, .cons a b, r => by
    rw [aC] at r
    obtain ⟨v, l, rfl, r1, r2⟩ := r
    exact .cons (ih _ _ _ a r1) (pairs_dp ih b r2)
theorem kv_key {k : L2.Key} {k2 : L2.Key} (r : az K m h.length H (keyE k) (kV k2)) : k2 = k := by
  cases k with
  | inl i =>
    unfold keyE at r
    rw [az] at r
    exact kV_int r
  | inr x =>
    unfold keyE at r
    rw [az] at r
    exact kV_str r
theorem rows_dp {n : Nat} (ih : ∀ (v : EV) (x : V) (d : PyData), DatD h n v d → az K m h.length H v x → DpD K H n x d) : ∀ {kvs : List (EV × EV)} {l : List (L2.Key × V)} {ps : List (L2.Key × PyData)}, Paired (fun (p : EV × EV) (q : L2.Key × PyData) => p.1 = keyE q.1 ∧ DatD h n p.2 q.2) kvs ps → bj K m h.length H kvs l →
    Paired (fun (p : L2.Key × V) (q : L2.Key × PyData) => p.1 = q.1 ∧ DpD K H n p.2 q.2) l ps
  | _, _, _, .nil, r => by
    have r' : _ = [] := r
    subst r'; exact .nil
  | _, _, _, .cons (a := p) (b := q) a b, r => by
    obtain ⟨x, y⟩ := p
    obtain ⟨k', v, l', rfl, rk, rv, rr⟩ := r
    obtain ⟨a1, a2⟩ := a
    dsimp only at a1
    subst a1
    exact .cons ⟨kv_key rk, ih _ _ _ a2 rv⟩ (rows_dp ih b rr)
theorem DatD.dp (R : cJ K m h H) : ∀ (n : Nat) (v : EV) (x : V) (d : PyData), DatD h n v d → az K m h.length H v x → DpD K H n x d
  | 0, v, x, d, a, r => LeafD.dp (h := h) a r
  | n + 1, v, x, d, a, r => by
    rcases a with a | ⟨xs, ds, ev, rfl, p⟩ | ⟨i, xs, ds, rfl, e, rfl, p⟩ | ⟨i, kvs, ps, rfl, e, rfl, p⟩
    · exact .inl (LeafD.dp (h := h) a r)
    · refine .inr (.inl ?_)
      rcases ev with rfl | rfl
      · rw [az] at r
        obtain ⟨a, us, rfl, ha, rs⟩ := r
        exact ⟨a, us, ds, rfl, SqT.of ha, rfl, pairs_dp (DatD.dp R n) p rs⟩
      · rw [az] at r
        obtain ⟨a, us, rfl, ha, rs⟩ := r
        exact ⟨a, us, ds, rfl, ha, rfl, pairs_dp (DatD.dp R n) p rs⟩
    · rw [az] at r
      obtain ⟨_, rfl⟩ := r
      obtain ⟨vs, hv, t⟩ := R.obj _ _ e
      exact .inr (.inr (.inl ⟨_, vs, ds, rfl, SqL.of hv, rfl, pairs_dp (DatD.dp R n) p t⟩))
    · rw [az] at r
      obtain ⟨_, rfl⟩ := r
      obtain ⟨l, hl, rl⟩ := R.obj _ _ e
      exact .inr (.inr (.inr ⟨_, l, ps, rfl, hl, rfl, rows_dp (DatD.dp R n) p rl⟩))
end
section
variable {X : Cx} {pins : List (Addr × Obj)} {σ : L2.St} {H : Hp} {s : Shared}
theorem LeafP.reads {v : V} {u : Value} {d : PyData} (a : LeafP v d) (r : RelV v u) : Reads s.heap u d [] := by
  cases v with
  | non => cases r; have a' : d = .none := a; subst a'; exact .none
  | bl b => cases r; have a' : d = .bool b := a; subst a'; exact .bool b
  | int i => obtain ⟨t, rfl⟩ := r; have a' : d = .int i := a; subst a'; exact .int i t
  | str x => obtain ⟨t, rfl⟩ := r; have a' : d = .str x := a; subst a'; exact .str x t
  | _ => exact a.elim
theorem sys_lst (S : SysK X.K) (I : Inv X pins σ H s) {a : Addr} {xs : List V} (h : SqL X.K H a xs) : sysModules ≠ a := by
  rintro rfl
  obtain ⟨o, ho, hc⟩ := S
  have hb := I.ok.mod.kin _ _ ho
  rcases h with h | ⟨o2, its, n, h1, h2, _⟩
  · have fr := (I.bs _ _ hb).2
    rcases h with h | ⟨ob, h⟩
    · rw [fr] at h; cases h
    · rw [fr] at h; cases h
  · rw [ho] at h1
    cases h1
    rw [hc] at h2
    simp at h2
theorem sys_dic (I : Inv X pins σ H s) {a : Addr} {l : List (L2.Key × V)} (e : H a = some (.dK l)) : sysModules ≠ a := by
  rintro rfl
  obtain ⟨_, sm, _⟩ := (show ObjOk X.prog X.w H s.heap _ (.dK _) from I.hok _ _ e)
  simp at sm
theorem pairs_reads {n : Nat} (ih : ∀ (v : V) (u : Value) (d : PyData), DpD X.K H n v d → RelV v u → ∃ as, Reads s.heap u d as ∧ sysModules ∉ as) : ∀ {xs : List V} {ds : List PyData} {us : List Value}, Paired (DpD X.K H n) xs ds → Vals xs us → ∃ as, ReadsAll s.heap us ds as ∧ sysModules ∉ as
  | _, _, _, .nil, r => by cases r; exact ⟨[], .nil, by simp⟩
  | _, _, _, .cons a b, r => by
    cases r with
    | cons r1 r2 =>
      obtain ⟨as, rd, h1⟩ := ih _ _ _ a r1
      obtain ⟨bs, rd2, h2⟩ := pairs_reads ih b r2
      exact ⟨_, .cons rd rd2, fun z => (List.mem_append.mp z).elim h1 h2⟩
theorem rows_reads {n : Nat} (ih : ∀ (v : V) (u : Value) (d : PyData), DpD X.K H n v d → RelV v u → ∃ as, Reads s.heap u d as ∧ sysModules ∉ as) : ∀ {l : List (L2.Key × V)} {ps : List (L2.Key × PyData)} {vs : List (L2.Key × Value)} {es : List DictEntry}, Paired (fun (p : L2.Key × V) (q : L2.Key × PyData) => p.1 = q.1 ∧ DpD X.K H n p.2 q.2) l ps → KV l vs → Pairs (mixKind X.prog X.w) es vs →
    ReadsAll s.heap (es.map (·.key)) (ps.map fun p => kD p.1) [] ∧ ∃ bs, ReadsAll s.heap (es.map (·.val)) (ps.map (·.2)) bs ∧ sysModules ∉ bs
  | _, _, _, _, .nil, kv, pr => by
    cases kv
    cases pr
    exact ⟨.nil, [], .nil, by simp⟩
  | _, _, _, _, .cons a b, kv, pr => by
    cases kv with
    | cons k1 k2 =>
      cases pr with
      | cons q1 q2 p2 =>
        obtain ⟨i1, bs, i2, i3⟩ := rows_reads ih b k2 p2
        obtain ⟨e1, d1⟩ := a
        obtain ⟨e2, r2⟩ := k1
        obtain ⟨as, rd, h1⟩ := ih _ _ _ d1 r2
        refine ⟨?_, _, ?_, fun z => (List.mem_append.mp z).elim h1 i3⟩
        · refine ReadsAll.cons (as := []) (bs := []) ?_ i1
          rcases keyIs_shape (k := _) (v := _) q1 with ⟨i, t, hk, hv⟩ | ⟨x, t, hk, hv⟩
          · dsimp only; rw [hv, ← e1, e2, hk]; exact .int i t
          · dsimp only; rw [hv, ← e1, e2, hk]; exact .str x t
        · refine ReadsAll.cons ?_ i2
          dsimp only; rw [q2]; exact rd
theorem DpD.reads (S : SysK X.K) (I : Inv X pins σ H s) : ∀ (n : Nat) (v : V) (u : Value) (d : PyData), DpD X.K H n v d → RelV v u → ∃ as, Reads s.heap u d as ∧ sysModules ∉ as
  | 0, v, u, d, a, r => ⟨[], LeafP.reads a r, by simp⟩
  | n + 1, v, u, d, a, r => by
    rcases a with a | ⟨a, xs, ds, rfl, ht, rfl, p⟩ | ⟨a, xs, ds, rfl, hl, rfl, p⟩ | ⟨a, l, ps, rfl, e, rfl, p⟩
    · exact ⟨[], LeafP.reads a r, by simp⟩
    · cases (show u = Value.ref _ from r)
      obtain ⟨its, rv, ⟨o, ho, hc, k, hda⟩, hz⟩ := I.tuple ht
      obtain ⟨as, rd, hs⟩ := pairs_reads (DpD.reads S I n) p rv
      exact ⟨_, .tuple ho hc hda (by simpa using rd), hs⟩
    · cases (show u = Value.ref _ from r)
      obtain ⟨its, rv, ⟨o, k, ho, hc, hdt, hda⟩, hz⟩ := I.list hl
      obtain ⟨as, rd, hs⟩ := pairs_reads (DpD.reads S I n) p rv
      exact ⟨_, .list ho hc hda (by simpa using rd), fun z => (List.mem_cons.mp z).elim (sys_lst S I hl) hs⟩
    · cases (show u = Value.ref _ from r)
      have ne := sys_dic I e
      obtain ⟨_, sm, vs, kv, o, es, ep, h1, h2, h3, _, hp, _⟩ := (show ObjOk X.prog X.w H s.heap _ (.dK _) from I.hok _ _ e)
      obtain ⟨i1, bs, i2, i3⟩ := rows_reads (DpD.reads S I n) p kv hp
      refine ⟨_, .dict h1 h2.1 h3 (by rw [List.map_map]; exact i1) (by rw [List.map_map]; exact i2), fun z => ?_⟩
      simp only [List.cons_append, List.nil_append] at z
      exact (List.mem_cons.mp z).elim ne i3
theorem DpD.depth : ∀ (n : Nat) (v : V) (d : PyData), DpD X.K H n v d → d.depth ≤ n + 1 := by
  intro n
  induction n with
  | zero =>
    intro v d a
    cases v <;> first | exact a.elim | (have a' : d = _ := a; subst a'; simp [PyData.depth])
  | succ n ih =>
    intro v d a
    have all : ∀ {xs : List V} {ds : List PyData}, Paired (DpD X.K H n) xs ds → PyData.depthAll ds ≤ n + 1 := by
      intro xs ds p
      induction p with
      | nil => simp [PyData.depthAll]
      | cons a _ ih2 =>
        have := ih _ _ a
        simp only [PyData.depthAll]
        omega
    have kvs : ∀ {l : List (L2.Key × V)} {ps : List (L2.Key × PyData)}, Paired (fun (p : L2.Key × V) (q : L2.Key × PyData) => p.1 = q.1 ∧ DpD X.K H n p.2 q.2) l ps → PyData.depthKv (ps.map fun p => (kD p.1, p.2)) ≤ n + 1 := by
      intro l ps p
      induction p with
      | nil => simp [PyData.depthKv]
      | @cons _ qq _ _ a _ ih2 =>
        have := ih _ _ a.2
        simp only [List.map_cons, PyData.depthKv]
        have : (kD qq.1).depth ≤ 1 := by cases qq.1 <;> simp [kD, PyData.depth]
        omega
    rcases a with a | ⟨a, xs, ds, rfl, ht, rfl, p⟩ | ⟨a, xs, ds, rfl, hl, rfl, p⟩ | ⟨a, l, ps, rfl, e, rfl, p⟩
    · cases v <;> first | exact a.elim | (have a' : d = _ := a; subst a'; simp [PyData.depth])
    · have := all p; simp only [PyData.depth]; omega
    · have := all p; simp only [PyData.depth]; omega
    · have := kvs p; unfold dicD; simp only [PyData.depth]; omega
end
def rReprDD (K : PySem.W.Frag) : List V → Hp → VK → Prop := fun xs H Q => ∃ a d, xs = [.ref a] ∧ DpD K H 40 (.ref a) d ∧ d.showable = true ∧ d.shown.length ≤ sizeLine ∧ Q (.str d.shown) H
def Boxed : EV → Prop
  | .tup _ => True
  | .ktup _ => True
  | .ref _ => True
  | _ => False
def reprDD : LC := fun vs h P => match vs with
  | [v] => (∃ d, Boxed v ∧ DatD h 40 v d ∧ d.showable = true ∧ d.shown.length ≤ sizeLine ∧ P (.str d.shown.cps.toList) h) ∨ reprW [v] h P
  | _ => False
theorem Boxed.ref {K : PySem.W.Frag} {m : Nat → Addr} {n : Nat} {H : Hp} {v : EV} {x : V} (b : Boxed v) (r : az K m n H v x) : ∃ a, x = .ref a := by
  cases v <;> first
    | exact b.elim
    | (rw [az] at r; obtain ⟨a, _, rfl, _⟩ := r; exact ⟨a, rfl⟩)
    | (rw [az] at r; exact ⟨_, r.2⟩)
section
variable {X : Cx}
theorem call_reprDD (S : SysK X.K) (hG : X.A.guards = some []) (hu : X.A.units + 64 < cLine) : CallR X (.builtin "repr") (rReprDD X.K) := by
  intro pins s σ H xs us Q I r q
  obtain ⟨a, d, rfl, hd, sd, zd, q⟩ := q
  obtain ⟨u, rfl, ru⟩ := vals1 r
  obtain ⟨as, rd, hsm⟩ := DpD.reads S I _ _ _ _ hd ru
  have dd := DpD.depth _ _ _ hd
  cases (show u = Value.ref _ from ru)
  exact PySem.repr_of_reads' rd sd (fun _ => hsm) hG (by omega) (fun _ _ e => e) (fun h' u tk kk => ⟨.str _, H, I.kept kk, ⟨_, rfl⟩, q⟩) zd
theorem lc_reprDD (S : SysK X.K) (hG : X.A.guards = some []) (hu : X.A.units + 64 < cLine) : jX X (.builtin "repr") reprDD := by
  obtain ⟨r0, h1, h2⟩ := lc_reprW (X := X) hG hu
  refine ⟨fun xs H Q => rReprDD X.K xs H Q ∨ r0 xs H Q, CallR.or (call_reprDD S hG hu) h1, ?_⟩
  intro m h H vs xs P Q R rr q k
  unfold reprDD at q
  split at q
  · rename_i v
    rcases q with ⟨d, bx, dd, sd, zd, p⟩ | q
    · obtain ⟨x, rfl, rx⟩ := rr.one_inv
      obtain ⟨a, rfl⟩ := bx.ref rx
      exact .inl ⟨a, d, rfl, DatD.dp R 40 _ _ _ dd rx, sd, zd, k.same R p (by rw [az])⟩
    · exact .inr (h2 m h H [v] xs P Q R rr q k)
  · exact q.elim
end
section
variable {P : Program} {w : World} {K : PySem.W.Frag} {A : Around} {hp : Heap} {g0 : Array GenState} {dr : Drawn} {tk : Nat} {os : OsState} {C fI e t0 : Addr} {x y f g : Str} {u v : Value} {R : Result → Shared → Prop}
end
section
variable {X : Cx} {C : Addr} {x y f g : Str}
end
section
variable {X : Cx} {W : EW}
end
section
variable {K : PySem.W.Frag} {m m' : Nat → Addr} {n n' : Nat} {H H' : Hp} {h h' : EH}
end
section
variable {X : Cx}
end
end Y
namespace Y
open PySem PySem.Spec PyProof.Rows L2 HT
section
variable {prog : Program} {w : World} {A : Around} {E : Value → Shared → Prop} {s : Shared}
end
end Y
namespace Y
open PySem PySem.Spec PyProof.Rows L2
section
variable {X : Cx}
end
section
variable {X : Cx}
end
section
variable {X : Cx}
end
section
variable {X : Cx} {pins : List (Addr × Obj)} {σ : L2.St} {H : Hp} {s : Shared} {d : Addr} {o : Obj}
end
section
variable {X : Cx}
end
section
variable {X : Cx}
end
section
variable {X : Cx}
end
section
variable {X : Cx}
end
def rEqN (K : PySem.W.Frag) : R2 := fun x y H Q => ∃ a b xs, x = .ref a ∧ y = .ref b ∧ SqL K H a xs ∧ SqL K H b [] ∧ Q (.bl (decide (xs = []))) H
theorem op_eqN {X : Cx} (hu : X.A.units + 64 < cLine) : OpR X (compareOp .Eq) (rEqN X.K) := by
  intro pins s σ H x y v u Q I rx ry h
  obtain ⟨a, b, xs, rfl, rfl, ha, hb, q⟩ := h
  cases rx
  cases ry
  obtain ⟨its, r, ⟨o, n, e, c, _, d⟩, _⟩ := I.list ha
  obtain ⟨its2, r2, ⟨o2, n2, e2, c2, _, d2⟩, _⟩ := I.list hb
  cases r2
  have l1 : s.heap.IsList a its.toArray := ⟨o, e, c, n, d⟩
  have l2 : s.heap.IsList b #[] := ⟨o2, e2, c2, n2, d2⟩
  cases r with
  | nil => exact PySem.SeqAt.eq_listAt (e := fun _ => true) l1 l2 rfl (by omega) (fun j h1 => absurd h1 (by simp)) ⟨.bl true, H, I, rfl, q⟩
  | cons r1 r2 =>
    rw [decide_eq_false (by simp)] at q
    exact PySem.SeqAt.eq_list_lengthsAt l1 l2 (by simp) (by omega) ⟨.bl false, H, I, rfl, q⟩
def eqN : LO := fun v w h P => match v, w with
  | .ref a, .ref b => match h[a]?, h[b]? with
    | some (.lst xs), some (.lst []) => P (.bl (decide (xs = []))) h
    | _, _ => False
  | _, _ => False
theorem lo_eqN {X : Cx} (hu : X.A.units + 64 < cLine) : o7 X (compareOp .Eq) eqN := by
  refine ⟨rEqN X.K, op_eqN hu, fun m h H v w x y P Q R rx ry q k => ?_⟩
  unfold eqN at q
  split at q
  · rename_i a b
    split at q
    · rename_i xs e1 e2
      rw [az] at rx ry
      obtain ⟨_, rfl⟩ := rx
      obtain ⟨_, rfl⟩ := ry
      obtain ⟨vs, hv, t⟩ := R.obj _ _ e1
      obtain ⟨vs2, hv2, t2⟩ := R.obj _ _ e2
      rw [aC] at t2
      subst t2
      have hl := t.length
      have : decide (xs = []) = decide (vs = []) := by
        cases xs <;> cases vs <;> simp at hl ⊢
      rw [this] at q
      exact ⟨_, _, vs, rfl, rfl, SqL.of hv, SqL.of hv2, k.same R q (by rw [az])⟩
    · exact q.elim
  · exact q.elim
theorem eqN_l {a b : Nat} {xs : List EV} {h : EH} {P : EK} (e : h[a]? = some (.lst xs)) (e2 : h[b]? = some (.lst [])) (p : P (.bl (decide (xs = []))) h) : eqN (.ref a) (.ref b) h P := by
  unfold eqN; simp only [e, e2]; exact p
end Y
namespace Y
open PySem PySem.Spec PyProof.Rows L2
def top (i : Nat) : Stmt := PySem.Challenge.pw_saidearly_k11_forms_of_any_value.main.body.getD i (.Pass ⟨0, 0, 0, 0⟩)
abbrev fJ : Stmt := top 8
abbrev fD : Stmt := top 9
abbrev il : Stmt := top 10
abbrev jB : Stmt := top 11
abbrev j8 : Stmt := top 12
abbrev fX : Stmt := top 13
abbrev fZ : Stmt := top 14
abbrev jE : Stmt := top 15
abbrev dH : Stmt := top 16
abbrev fW : Stmt := top 23
abbrev cG : Stmt := top 24
abbrev bR : Stmt := inClass (top 25) 1
abbrev iz : Stmt := top 27
abbrev ir : Stmt := top 28
abbrev jx : Stmt := top 29
abbrev fG : Stmt := top 30
abbrev di : Stmt := top 31
abbrev fK : Stmt := top 32
abbrev ig : Stmt := top 33
abbrev dN : Stmt := top 34
abbrev fL : Stmt := top 35
abbrev dM : Stmt := top 36
abbrev eE : Stmt := top 37
abbrev cW : Stmt := top 38
abbrev cH : Stmt := top 39
abbrev dR : Stmt := top 40
abbrev cZ : Stmt := top 41
abbrev cM : Stmt := top 42
abbrev bL : Stmt := top 43
abbrev gY : Stmt := top 44
abbrev fV : Stmt := top 45
abbrev fU : Stmt := top 46
abbrev fH : Stmt := top 47
abbrev g8 : Stmt := top 48
abbrev s_law : Stmt := top 49
abbrev M_is_integer : List Str := ["thing"]
abbrev M_is_between : List Str := ["thing", "low", "high"]
abbrev M_is_letter : List Str := ["thing"]
abbrev M_is_text : List Str := ["thing", "one"]
abbrev M_is_side : List Str := ["thing"]
abbrev M_is_script : List Str := ["thing", "sign"]
abbrev M_is_promise : List Str := ["thing"]
abbrev M_is_pair : List Str := ["thing", "one"]
abbrev qw : List Str := ["thing", "one"]
abbrev M_are_costs : List Str := ["thing", "one"]
abbrev mG : List Str := ["thing", "letter", "costs"]
abbrev j9 : List Str := ["self", "table", "letter"]
abbrev M__law_bag : List Str := ["_law_script", "_law_cell"]
abbrev M__law_take : List Str := ["_law_bag_here", "_law_many", "_law_cell", "_law_mixed_here", "_law_drawn", "_law_early", "_law_second"]
abbrev M__law_one : List Str := ["_law_bag_here", "_law_some"]
abbrev M__law_mixed : List Str := ["_law_bag_here", "_law_things", "_law_found", "_law_thing"]
abbrev M__law_alphabet : List Str := ["_law_bag_here"]
abbrev M__law_text : List Str := ["_law_bag_here", "_law_letters", "_law_most", "_law_k"]
abbrev M__law_pair : List Str := ["_law_bag_here"]
abbrev M__law_promise : List Str := ["_law_bag_here", "_law_way"]
abbrev M__law_alike : List Str := ["_law_found", "_law_due"]
abbrev M__law_integer : List Str := ["_law_thing"]
abbrev M__law_letter : List Str := ["_law_thing"]
abbrev oJ : List Str := ["_law_thing", "_law_one_here"]
abbrev mj : List Str := ["_law_thing", "_law_one_here"]
abbrev M__law_is_side : List Str := ["_law_thing"]
abbrev oX : List Str := ["_law_thing", "_law_one_here"]
abbrev pO : List Str := ["_law_thing"]
abbrev jZ : List Str := ["_law_thing", "_law_one_here"]
abbrev M__law_dues : List Str := ["_law_thing", "_law_found"]
abbrev M__law_tolds : List Str := ["_law_thing", "_law_found"]
abbrev M__law_plain : List Str := ["_law_found"]
abbrev M__law_good : List Str := ["_law_bag_here", "_law_letters", "_law_way", "_law_k"]
abbrev M__law_bent : List Str := ["_law_bag_here", "_law_thing", "_law_depth", "_law_way", "_law_at"]
abbrev M_law : List Str := ["_law_script", "_law_bag_here", "_law_things", "_law_k", "_law_thing", "_law_due", "_law_said", "_law_again", "_law_at", "_law_odd", "_law_long", "_law_spot", "_law_bent_here"]
def dD_is_integer : He.DefD := ⟨("is_integer", none), "is_integer", "is_integer", defArgs fJ, defBody fJ, defScope fJ, [], []⟩
def dD_is_between : He.DefD := ⟨("is_between", none), "is_between", "is_between", defArgs fD, defBody fD, defScope fD, [], []⟩
def dD_is_letter : He.DefD := ⟨("is_letter", none), "is_letter", "is_letter", defArgs il, defBody il, defScope il, [], []⟩
def dD_is_text : He.DefD := ⟨("is_text", none), "is_text", "is_text", defArgs jB, defBody jB, defScope jB, [], []⟩
def dD_is_side : He.DefD := ⟨("is_side", none), "is_side", "is_side", defArgs j8, defBody j8, defScope j8, [], []⟩
def dD_is_script : He.DefD := ⟨("is_script", none), "is_script", "is_script", defArgs fX, defBody fX, defScope fX, [], []⟩
def dD_is_promise : He.DefD := ⟨("is_promise", none), "is_promise", "is_promise", defArgs fZ, defBody fZ, defScope fZ, [], []⟩
def dD_is_pair : He.DefD := ⟨("is_pair", none), "is_pair", "is_pair", defArgs jE, defBody jE, defScope jE, [], []⟩
def dD_is_going_on : He.DefD := ⟨("is_going_on", none), "is_going_on", "is_going_on", defArgs dH, defBody dH, defScope dH, [], []⟩
def dD_are_costs : He.DefD := ⟨("are_costs", none), "are_costs", "are_costs", defArgs fW, defBody fW, defScope fW, [], []⟩
def pQ : He.DefD := ⟨("is_price_table", none), "is_price_table", "is_price_table", defArgs cG, defBody cG, defScope cG, [], []⟩
def oN : He.DefD := ⟨("Prices", some "__init__"), "__init__", "Prices.__init__", defArgs bR, defBody bR, defScope bR, [], []⟩
def dD__law_bag : He.DefD := ⟨("_law_bag", none), "_law_bag", "_law_bag", defArgs iz, defBody iz, defScope iz, [], []⟩
def dD__law_take : He.DefD := ⟨("_law_take", none), "_law_take", "_law_take", defArgs ir, defBody ir, defScope ir, [], []⟩
def dD__law_one : He.DefD := ⟨("_law_one", none), "_law_one", "_law_one", defArgs jx, defBody jx, defScope jx, [], []⟩
def dD__law_mixed : He.DefD := ⟨("_law_mixed", none), "_law_mixed", "_law_mixed", defArgs fG, defBody fG, defScope fG, [], []⟩
def dD__law_alphabet : He.DefD := ⟨("_law_alphabet", none), "_law_alphabet", "_law_alphabet", defArgs di, defBody di, defScope di, [], []⟩
def dD__law_text : He.DefD := ⟨("_law_text", none), "_law_text", "_law_text", defArgs fK, defBody fK, defScope fK, [], []⟩
def dD__law_pair : He.DefD := ⟨("_law_pair", none), "_law_pair", "_law_pair", defArgs ig, defBody ig, defScope ig, [], []⟩
def dD__law_promise : He.DefD := ⟨("_law_promise", none), "_law_promise", "_law_promise", defArgs dN, defBody dN, defScope dN, [], []⟩
def dD__law_alike : He.DefD := ⟨("_law_alike", none), "_law_alike", "_law_alike", defArgs fL, defBody fL, defScope fL, [], []⟩
def dD__law_integer : He.DefD := ⟨("_law_integer", none), "_law_integer", "_law_integer", defArgs dM, defBody dM, defScope dM, [], []⟩
def dD__law_letter : He.DefD := ⟨("_law_letter", none), "_law_letter", "_law_letter", defArgs eE, defBody eE, defScope eE, [], []⟩
def dD__law_is_text : He.DefD := ⟨("_law_is_text", none), "_law_is_text", "_law_is_text", defArgs cW, defBody cW, defScope cW, [], []⟩
def pH : He.DefD := ⟨("_law_is_script", none), "_law_is_script", "_law_is_script", defArgs cH, defBody cH, defScope cH, [], []⟩
def dD__law_is_side : He.DefD := ⟨("_law_is_side", none), "_law_is_side", "_law_is_side", defArgs dR, defBody dR, defScope dR, [], []⟩
def dD__law_is_pair : He.DefD := ⟨("_law_is_pair", none), "_law_is_pair", "_law_is_pair", defArgs cZ, defBody cZ, defScope cZ, [], []⟩
def oY : He.DefD := ⟨("_law_is_promise", none), "_law_is_promise", "_law_is_promise", defArgs cM, defBody cM, defScope cM, [], []⟩
def nO : He.DefD := ⟨("_law_is_going_on", none), "_law_is_going_on", "_law_is_going_on", defArgs bL, defBody bL, defScope bL, [], []⟩
def dD__law_dues : He.DefD := ⟨("_law_dues", none), "_law_dues", "_law_dues", defArgs gY, defBody gY, defScope gY, [], []⟩
def dD__law_tolds : He.DefD := ⟨("_law_tolds", none), "_law_tolds", "_law_tolds", defArgs fV, defBody fV, defScope fV, [], []⟩
def dD__law_plain : He.DefD := ⟨("_law_plain", none), "_law_plain", "_law_plain", defArgs fU, defBody fU, defScope fU, [], []⟩
def dD__law_good : He.DefD := ⟨("_law_good", none), "_law_good", "_law_good", defArgs fH, defBody fH, defScope fH, [], []⟩
def dD__law_bent : He.DefD := ⟨("_law_bent", none), "_law_bent", "_law_bent", defArgs g8, defBody g8, defScope g8, [], []⟩
def dD_law : He.DefD := ⟨("law", none), "law", "law", defArgs s_law, defBody s_law, defScope s_law, [], []⟩
def fn : List He.DefD := [dD_is_integer, dD_is_between, dD_is_letter, dD_is_text, dD_is_side, dD_is_script, dD_is_promise, dD_is_pair, dD_is_going_on, dD_are_costs, pQ, oN, dD__law_bag, dD__law_take, dD__law_one, dD__law_mixed, dD__law_alphabet, dD__law_text, dD__law_pair, dD__law_promise, dD__law_alike, dD__law_integer, dD__law_letter, dD__law_is_text, pH, dD__law_is_side, dD__law_is_pair, oY, nO, dD__law_dues, dD__law_tolds, dD__law_plain, dD__law_good, dD__law_bent, dD_law]
def fa : List He.Fa := [.glo "is_integer", .glo "is_between", .glo "is_letter", .glo "is_text", .glo "is_side", .glo "is_script", .glo "is_promise", .glo "is_pair", .glo "is_going_on", .glo "are_costs", .glo "is_price_table", .mkr "Prices", .glo "_law_bag", .glo "_law_take", .glo "_law_one", .glo "_law_mixed", .glo "_law_alphabet", .glo "_law_text", .glo "_law_pair", .glo "_law_promise", .glo "_law_alike", .glo "_law_integer", .glo "_law_letter", .glo "_law_is_text", .glo "_law_is_script", .glo "_law_is_side", .glo "_law_is_pair", .glo "_law_is_promise", .glo "_law_is_going_on", .glo "_law_dues", .glo "_law_tolds", .glo "_law_plain", .glo "_law_good", .glo "_law_bent", .glo "law", .glo "Prices", .free "abs", .free "all", .free "bool", .free "dict", .free "int", .free "isinstance", .free "len", .free "list", .free "min", .free "range", .free "repr", .free "sorted", .free "str", .free "tuple", .int "GREATEST_LAG" 4, .int "GREATEST_LETTER" 1000000000, .int "GREATEST_OF_PAIR" 3, .int "GREATEST_PRICE" 9, .int "GREATEST_TOTAL" 60, .glo "PLAIN", .glo "SIDE_WORDS", .str "STEPS" "kdp"]
def ts : List He.Tab := []
def exB : PySem.W.Frag → Bool := fun K => sclsB K (He.ga K "Prices") && slotB K (He.ga K "Prices") "its_costs" 0 && isiOkB K (He.ga K "Prices") && sysB K && tupB K (He.ga K "PLAIN") [.int 1, .int 1] && tupB K (He.ga K "SIDE_WORDS") [.str [108, 101, 102, 116], .str [114, 105, 103, 104, 116]]
abbrev hk : PySem.W.Hook := hookZ 2000 fa fn ts exB
abbrev R : PySem.W.OpenRow := PySem.W.OpenLaw.row PySem.Challenge.rw_saidearly_k11_forms_of_any_value
def ob (s : PySem.W.SharedT) : He.AlX := obsZ 2000 fa fn ts exB (HandSHeadRun.getT s)
theorem ob_eq (s : PySem.W.SharedT) : ob s = hk.obs s.abs := obsZ_eq (HandSHeadRun.getT_eq s)
def names : List PySem.Str := (["_wall", "GREATEST_LETTER", "GREATEST_LAG", "GREATEST_TOTAL", "GREATEST_OF_PAIR", "SIDE_WORDS", "STEPS", "is_integer", "is_between", "is_letter"] : List PySem.Str) ++ (["is_text", "is_side", "is_script", "is_promise", "is_pair", "is_going_on", "EarlyError", "Wrong", "PLAIN", "GREATEST_PRICE"] : List PySem.Str) ++ (["are_costs", "is_price_table", "Prices", "_law_bag", "_law_take", "_law_one", "_law_mixed", "_law_alphabet", "_law_text", "_law_pair"] : List PySem.Str) ++ (["_law_promise", "_law_alike", "_law_integer", "_law_letter", "_law_is_text", "_law_is_script", "_law_is_side", "_law_is_pair", "_law_is_promise", "_law_is_going_on"] : List PySem.Str) ++ (["_law_dues", "_law_tolds", "_law_plain", "_law_good", "_law_bent"] : List PySem.Str)
open PySem.W PySem.Calls
theorem split3 {α β γ δ : Type} {x : Option α} {f : α → β} {g : α → γ} {k : α → δ} {b : β} {c : γ} {d : δ} (h1 : x.map f = some b) (h2 : x.map g = some c) (h3 : x.map k = some d) : x.map (fun s => (f s, g s, k s)) = some (b, c, d) := by
  cases x with
  | none => cases h1
  | some s =>
    rw [Option.map_some] at h1 h2 h3 ⊢
    rw [Option.some.inj h1, Option.some.inj h2, Option.some.inj h3]
theorem splitOb {x : Option PySem.W.SharedT} {n : Nat} {fa : List He.Fa} {fn : List He.DefD} {ts : List He.Tab} {ex : PySem.W.Frag → Bool} {w : World}
    (ha : x.map (fun s => fa.all fun f => f.ok (He.frT (HandSHeadRun.getT s) (List.range n))) = some true)
    (hb1 : x.map (fun s => (fn.take 33).all fun d => d.ok (He.frT (HandSHeadRun.getT s) (List.range n))) = some true)
    (hb2 : x.map (fun s => ((fn.drop 33).take 33).all fun d => d.ok (He.frT (HandSHeadRun.getT s) (List.range n))) = some true)
    (hb3 : x.map (fun s => ((fn.drop 33).drop 33).all fun d => d.ok (He.frT (HandSHeadRun.getT s) (List.range n))) = some true)
    (hc : x.map (fun s => fn.map fun d => He.fnW (He.frT (HandSHeadRun.getT s) (List.range n)) d.at_) = some (fn.map He.DefD.val))
    (ht : x.map (fun s => (ts.map fun t => He.dicW (He.frT (HandSHeadRun.getT s) (List.range n)) (t.1 (He.frT (HandSHeadRun.getT s) (List.range n))), ex (He.frT (HandSHeadRun.getT s) (List.range n)))) = some ((He.valT fn ts w).2, true)) :
    x.map (fun s => obsZ n fa fn ts ex (HandSHeadRun.getT s)) = some (He.valX fn ts w) := by
  cases x with
  | none => cases ha
  | some s =>
    rw [Option.map_some] at ha hb1 hb2 hb3 hc ht ⊢
    have ha := Option.some.inj ha
    have hb : (fn.all fun d => d.ok (He.frT (HandSHeadRun.getT s) (List.range n))) = true := by
      rw [← List.take_append_drop 33 fn, List.all_append, Option.some.inj hb1, ← List.take_append_drop 33 (fn.drop 33), List.all_append, Option.some.inj hb2, Option.some.inj hb3]
      rfl
    have hc := Option.some.inj hc
    have ht := Option.some.inj ht
    have h1 := congrArg Prod.fst ht
    have h2 := congrArg Prod.snd ht
    simp only at h1 h2
    unfold obsZ He.obsT He.obsD He.valX He.valT He.valD
    rw [ha, hb, hc, h1, h2]
    rfl
theorem run1 (w : World) (os : OsState) : (HandSHeadRun.endF (HandSHeadRun.stepQ (HandSHeadRun.denQ HandSHeadRun.tabQ) R.prog w) 16000 R.prog w os).map (fun s => HandSHeadRun.looksF R.prog (boot_heap w.params) s.abs) = some true := by
  kernel_rfl
theorem run2 (w : World) (os : OsState) : (HandSHeadRun.endF (HandSHeadRun.stepQ (HandSHeadRun.denQ HandSHeadRun.tabQ) R.prog w) 16000 R.prog w os).map (fun s => HandSHeadRun.seenQ (PySem.W.view R.prog [49]) names (importedModules R.prog.main.body) (fun s => xlAt (PySem.W.view R.prog [49]) [] s && recOk R.toRowW.records s) s.abs) = some (openGood (PySem.W.view R.prog [49]) names) := by
  kernel_rfl
theorem run3a (w : World) (os : OsState) : (HandSHeadRun.endF (HandSHeadRun.stepQ (HandSHeadRun.denQ HandSHeadRun.tabQ) R.prog w) 16000 R.prog w os).map (fun s => fa.all fun f => f.ok (He.frT (HandSHeadRun.getT s) (List.range 2000))) = some true := by
  kernel_rfl
theorem run3b1 (w : World) (os : OsState) : (HandSHeadRun.endF (HandSHeadRun.stepQ (HandSHeadRun.denQ HandSHeadRun.tabQ) R.prog w) 16000 R.prog w os).map (fun s => (fn.take 33).all fun d => d.ok (He.frT (HandSHeadRun.getT s) (List.range 2000))) = some true := by
  kernel_rfl
theorem run3b2 (w : World) (os : OsState) : (HandSHeadRun.endF (HandSHeadRun.stepQ (HandSHeadRun.denQ HandSHeadRun.tabQ) R.prog w) 16000 R.prog w os).map (fun s => ((fn.drop 33).take 33).all fun d => d.ok (He.frT (HandSHeadRun.getT s) (List.range 2000))) = some true := by
  kernel_rfl
theorem run3b3 (w : World) (os : OsState) : (HandSHeadRun.endF (HandSHeadRun.stepQ (HandSHeadRun.denQ HandSHeadRun.tabQ) R.prog w) 16000 R.prog w os).map (fun s => ((fn.drop 33).drop 33).all fun d => d.ok (He.frT (HandSHeadRun.getT s) (List.range 2000))) = some true := by
  kernel_rfl
theorem run3c (w : World) (os : OsState) : (HandSHeadRun.endF (HandSHeadRun.stepQ (HandSHeadRun.denQ HandSHeadRun.tabQ) R.prog w) 16000 R.prog w os).map (fun s => fn.map fun d => He.fnW (He.frT (HandSHeadRun.getT s) (List.range 2000)) d.at_) = some (fn.map He.DefD.val) := by
  kernel_rfl
theorem run3d (w : World) (os : OsState) : (HandSHeadRun.endF (HandSHeadRun.stepQ (HandSHeadRun.denQ HandSHeadRun.tabQ) R.prog w) 16000 R.prog w os).map (fun s => (ts.map fun t => He.dicW (He.frT (HandSHeadRun.getT s) (List.range 2000)) (t.1 (He.frT (HandSHeadRun.getT s) (List.range 2000))), exB (He.frT (HandSHeadRun.getT s) (List.range 2000)))) = some ((He.valT fn ts w).2, true) := by
  kernel_rfl
theorem run3 (w : World) (os : OsState) : (HandSHeadRun.endF (HandSHeadRun.stepQ (HandSHeadRun.denQ HandSHeadRun.tabQ) R.prog w) 16000 R.prog w os).map (fun s => ob s) = some (hk.val w) := splitOb (run3a w os) (run3b1 w os) (run3b2 w os) (run3b3 w os) (run3c w os) (run3d w os)
theorem run (w : World) : HandSHeadRun.RunEq R (PySem.W.view R.prog [49]) hk ob 16000 names w := fun os => split3 (run1 w os) (run2 w os) (run3 w os)
end Y
section
open PySem PySem.W PySem.Calls PyProof.Rows
theorem Y.pre_saidearly_k11_forms_of_any_value (F : ∀ (w : World) (K : PySem.W.Frag) (mg : Str → Option Value) (f' : Addr) (h : Heap), K.In h → He.SaysX Y.fa Y.fn Y.ts [] Y.exB w h K → h.Ns mainGlobals mg → mg ("law" : PySem.Str) = some (.ref f') →
    ∃ fd : FuncData, (∀ (s : Shared) (u : Value), BindsTo s fd ⟨[u], []⟩ [("_law_script", u)]) ∧ ∀ base : Heap, K.In base → base.Ns mainGlobals mg → Y.FnG PySem.Challenge.rw_saidearly_k11_forms_of_any_value.prog w K mg base 15 f' fd ["_law_script"] (Y.spTop 63)) : PySem.Challenge.rw_saidearly_k11_forms_of_any_value.Holds := by
  w_on; o_law
  refine HandSHeadRun.head_any (r := OpenLaw.row PySem.Challenge.rw_saidearly_k11_forms_of_any_value) (q := view (OpenLaw.row PySem.Challenge.rw_saidearly_k11_forms_of_any_value).prog [49]) (H := Y.hk) (ob := Y.ob) (M := 16000) (loose := Y.names) (d := HandSHeadRun.topDef (OpenLaw.row PySem.Challenge.rw_saidearly_k11_forms_of_any_value).prog 49) (kwd := []) Y.ob_eq
    (by kernel_rfl) (fun s => by kernel_rfl) Y.run (by kernel_rfl) (by kernel_rfl) (by kernel_rfl) (by rfl) (by first | assumption | decide +kernel) (by decide +kernel) ⟨rfl, rfl, rfl, rfl, rfl, by decide +kernel⟩ ?hw ?hc
  case hw => w_witness2
  case hc =>
    refine Y.walkG (l := PySem.Challenge.rw_saidearly_k11_forms_of_any_value) (n := 63) (k := 15) (x := "_law_script") rfl (by decide) (by kernel_rfl) ⟨rfl, by decide, by decide⟩ ?F
    intro w mg fa h Y G hmg0
    obtain ⟨K, KX, c⟩ := Y
    have hmg : mg ("law" : PySem.Str) = some (.ref fa) := by
      have e : (HandSHeadRun.topDef (OpenLaw.row PySem.Challenge.rw_saidearly_k11_forms_of_any_value).prog 49).name = ("law" : PySem.Str) := by kernel_rfl
      rw [← e]
      exact hmg0
    obtain ⟨fd, hb, hF⟩ := F w K mg fa h KX c G hmg
    exact ⟨K, fd, KX, hb, hF⟩
end
namespace Y
open PySem PySem.Spec PyProof.Rows L2
def bM (h : EH) (b : Nat) : Prop := ∃ (c : Nat) (x y z : Int) (ns : List Int), h[b]? = some (.lst [.int x, .int y, .int z, .ref c]) ∧ h[c]? = some (.lst (ns.map EV.int)) ∧ c < b ∧ 0 ≤ x ∧ 0 ≤ y ∧ 0 ≤ z ∧ ns.length ≤ 63 ∧ ∀ n ∈ ns, 0 ≤ n
def is1 (b : Nat) : Nat → Prop := fun r => r = b
def spBag : LSp := fun evs h Q => ∃ ns : List Int, evs = [.ref 0] ∧ h = [.frz (ns.map EV.int)] ∧ ns.length ≤ 63 ∧ ∀ b h', bM h' b → Q (.ref b) h'
def spTake : LSp := fun evs h Q => ∃ (b : Nat) (many : Int), evs = [.ref b, .int many] ∧ 0 < many ∧ many < 2 ^ 60 ∧ bM h b ∧ ∀ d h', 0 ≤ d → d < many → aD (is1 b) h h' → bM h' b → Q (.int d) h'
def spOne : LSp := fun evs h Q => ∃ (b l : Nat) (xs : List EV), evs = [.ref b, .ref l] ∧ h[l]? = some (.lst xs) ∧ xs ≠ [] ∧ xs.length ≤ sizeLine ∧ l ≠ b ∧ bM h b ∧ ∀ x h', x ∈ xs → aD (is1 b) h h' → bM h' b → Q x h'
def spMixed : LSp := fun evs h Q => ∃ (b l : Nat) (xs : List EV), evs = [.ref b, .ref l] ∧ h[l]? = some (.lst xs) ∧ xs.length ≤ 1000000 ∧ l ≠ b ∧ bM h b ∧ ∀ r ys h', ys.Perm xs → aD (is1 b) h h' → h.length ≤ r → h'[r]? = some (.lst ys) → bM h' b → Q (.ref r) h'
def spAlike : LSp := fun evs h Q => ∃ (v w : EV) (d : PyData), evs = [v, w] ∧ Dat h 60 v d ∧ Dat h 60 w d ∧ d.showable = true ∧ d.shown.length ≤ sizeLine ∧ Q (.bl true) h
def rdBag : LS :=
    aM (aU (aa (lC (.int 0)) (aa (lC (.int 1234567891)) (aa (lC (.int 0)) (aa (lLc (lIt (lSl (ao 0) (aP none) (aP (some (lC (.int 63)))))) (.nm 1) (mY) (lCB absE (aa (ao 1) (ak))) [1]) (ak))))))
def rdTake : LS :=
    aH (bB (lB (lOp (eqE false) (lOp ixA (ao 0) (lC (.int 0))) (lC (.int 0))))
      (aH (bA (lOp ixA (lOp bG (lSl (lOp ixA (ao 0) (lC (.int 3))) (aP (some (lOp ixA (ao 0) (lC (.int 2))))) (aP none)) (aU (aa (lC (.int 0)) (ak)))) (lC (.int 0))) 2) <|
    aH (dC (fun i j => i + j) (ao 0) (lC (.int 2)) (lC (.int 1))) <|
    aH (cQ (ao 0) (lC (.int 0)) (lOp iK (ao 2) (lCB intOf (aa (lOp geE (ao 2) (lOp powE (lC (.int 10)) (lC (.int 18)))) (ak))))) <|
    aH (bA (lOp bG (lOp bG (lOp iK (lOp ixA (ao 0) (lC (.int 1))) (lC (.int 48271))) (lOp modE (lCB intOf (aa (ao 2) (ak))) (lC (.int 2147483647)))) (lOp iK (lC (.int 7919)) (lOp ixA (ao 0) (lC (.int 2))))) 3) <|
    cQ (ao 0) (lC (.int 1)) (lOp modE (lCB intOf (aa (ao 3) (ak))) (lC (.int 2147483647))))
      (aW)) <|
    aH (bB (lB (lOp gtE (lOp ixA (ao 0) (lC (.int 0))) (lC (.int 0))))
      (aH (bA (lOp modE (lCB intOf (aa (lOp ixA (ao 0) (lC (.int 0))) (ak))) (ao 1)) 4) <|
    aH (cQ (ao 0) (lC (.int 0)) (lOp fdivE (lCB intOf (aa (lOp ixA (ao 0) (lC (.int 0))) (ak))) (ao 1))) <|
    aM (ao 4))
      (aW)) <|
    aH (bA (lOp modE (lCB intOf (aa (lOp iK (lOp bG (lOp ixA (ao 0) (lC (.int 1))) (lC (.int 1))) (lC (.int 39373))) (ak))) (lC (.int 1000000007))) 5) <|
    aH (bA (lOp modE (lCB intOf (aa (lOp iK (lOp modE (lCB intOf (aa (lOp iK (ao 5) (ao 5)) (ak))) (lC (.int 998244353))) (lC (.int 30011))) (ak))) (lC (.int 998244353))) 6) <|
    aM (lOp modE (lCB intOf (aa (lOp fdivE (ao 6) (lC (.int 7))) (ak))) (ao 1))
def rdOne : LS :=
    aM (lOp ixA (ao 1) (aA spTake (aa (ao 0) (aa (lCB gJ (aa (ao 1) (ak))) (ak)))))
def rdMixed : LS :=
    aH (bA (aU (ak)) 2) <|
    aH (gj (lIt (ao 1)) (.nm 3)
      (dh (lBM "list" insertE (ao 2) (aa (aA spTake (aa (ao 0) (aa (lOp bG (lCB gJ (aa (ao 2) (ak))) (lC (.int 1))) (ak)))) (aa (ao 3) (ak)))))) <|
    aM (ao 2)
def rdAlike : LS :=
    aM (bD (lOp (eqE false) (ao 0) (ao 1)) (lOp (eqE false) (lCB reprE (aa (ao 0) (ak))) (lCB reprE (aa (ao 1) (ak)))))
theorem pureBag (evs : List EV) (h : EH) (Q : EK) (q : spBag evs h Q) : rdBag (aO Q) (bF ["_law_script", "_law_cell"] evs) h := by
  obtain ⟨ns, rfl, rfl, hl, q⟩ := q
  show rdBag (aO Q) [some (.ref 0), none] [.frz (ns.map EV.int)]
  simp only [rdBag, aH, bA, aM, dX, dh, bB, lOp, ao, lC, lB, lT, iY, lOr, cD, lIf, bD, jJ, dO, ak, aa, aG, aU, lCB, lBM, lSl, aP, aW, gj, lIt, bV, dU, jN, gq, dW, cQ, dC, lLc, jH, dY, aA, bH, gZ, gS, sZ, sS, gW, bJ, fB, iW, slE]
  have ec : cut (ns.map EV.int) none (some 63) = ns.map EV.int := by
    rw [show (63 : Int) = ((63 : Nat) : Int) from rfl, cut_to, List.take_of_length_le (by simpa using hl)]
  rw [ec]
  simp only [List.length_cons, List.length_nil, List.getElem?_append_right, Nat.le_refl, Nat.sub_self, gZ, Nat.zero_add]
  refine lc_map (fun v => match v with
    | .int i => EV.int (i.natAbs : Int)
    | _ => .non) _ ?_ (fun acc => by simp) (fun x hx acc ky hy => ?_) ?_
  · rw [List.length_map, aN]; omega
  · obtain ⟨c, hc, rfl⟩ := List.mem_map.mp hx
    simp only [ie, Pat.bind, aH, bA, aM, dX, dh, bB, lOp, ao, lC, lB, lT, iY, lOr, cD, lIf, bD, jJ, dO, ak, aa, aG, aU, lCB, lBM, lSl, aP, aW, gj, lIt, bV, dU, jN, gq, dW, cQ, dC, lLc, jH, dY, aA, bH, gZ, gS, sZ, sS, gW, bJ, fB, iW, absE]
    exact hy
  · rw [aN]
    refine ⟨by decide, ?_⟩
    refine q _ _ ⟨2, 0, 1234567891, 0, ns.map fun i => (i.natAbs : Int), ?_, ?_, ?_, by decide, by decide, by decide, ?_, ?_⟩
    · simp
    · simp
    · simp
    · simpa using hl
    · intro n hn
      obtain ⟨i, _, rfl⟩ := List.mem_map.mp hn
      omega
theorem lenBag (evs : List EV) (h : EH) (Q : EK) (q : spBag evs h Q) : evs.length = ["_law_script"].length := by
  obtain ⟨_, rfl, _⟩ := q; rfl
theorem take_end {b : Nat} {many : Int} {x y z : Int} {c : Nat} {ns : List Int} {Q : EK} {h h0 : EH} (hm : 0 < many) (hm2 : many < 2 ^ 60) (k0 : aD (is1 b) h0 h)
    (e1 : h[b]? = some (.lst [.int x, .int y, .int z, .ref c])) (e2 : h[c]? = some (.lst (ns.map EV.int))) (hcb : c < b) (hx : 0 ≤ x) (hy : 0 ≤ y) (hz : 0 ≤ z) (hnl : ns.length ≤ 63) (hn : ∀ n ∈ ns, 0 ≤ n)
    (q : ∀ d h', 0 ≤ d → d < many → aD (is1 b) h0 h' → bM h' b → Q (.int d) h') {env : En} (he : env.length = 7) (h0 : env[0]? = some (some (.ref b))) (h1 : env[1]? = some (some (.int many))) :
    (aH (bB (lB (lOp gtE (lOp ixA (ao 0) (lC (.int 0))) (lC (.int 0))))
      (aH (bA (lOp modE (lCB intOf (aa (lOp ixA (ao 0) (lC (.int 0))) (ak))) (ao 1)) 4) <|
    aH (cQ (ao 0) (lC (.int 0)) (lOp fdivE (lCB intOf (aa (lOp ixA (ao 0) (lC (.int 0))) (ak))) (ao 1))) <|
    aM (ao 4))
      (aW)) <|
    aH (bA (lOp modE (lCB intOf (aa (lOp iK (lOp bG (lOp ixA (ao 0) (lC (.int 1))) (lC (.int 1))) (lC (.int 39373))) (ak))) (lC (.int 1000000007))) 5) <|
    aH (bA (lOp modE (lCB intOf (aa (lOp iK (lOp modE (lCB intOf (aa (lOp iK (ao 5) (ao 5)) (ak))) (lC (.int 998244353))) (lC (.int 30011))) (ak))) (lC (.int 998244353))) 6) <|
    aM (lOp modE (lCB intOf (aa (lOp fdivE (ao 6) (lC (.int 7))) (ak))) (ao 1))) (aO Q) env h := by
  obtain ⟨g0, g1, g2, g3, g4, g5, g6, rfl⟩ : ∃ a b c d e f g, env = [a, b, c, d, e, f, g] := by
    match env, he with
    | [a, b, c, d, e, f, g], _ => exact ⟨a, b, c, d, e, f, g, rfl⟩
  simp only [gZ, gS, Option.some.injEq] at h0 h1
  subst h0 h1
  simp only [aH, bA, aM, dX, dh, bB, lOp, ao, lC, lB, lT, iY, lOr, cD, lIf, bD, jJ, dO, ak, aa, aG, aU, lCB, lBM, lSl, aP, aW, gj, lIt, bV, dU, jN, gq, dW, cQ, dC, lLc, jH, dY, aA, bH, gZ, gS, sZ, sS, gW, bJ, fB, iW]
  refine ia_l e1 at0 ?_
  show if decide (0 < x) = true then _ else _
  split
  · refine ia_l e1 at0 ?_
    refine int_i ?_
    refine mod_i hm ?_
    refine ia_l e1 at0 ?_
    refine int_i ?_
    refine div_i hm (by omega) ?_
    refine sa_l e1 (k := 0) rfl ?_
    refine q _ _ (Int.emod_nonneg _ (by omega)) (Int.emod_lt_of_pos _ hm) (k0.trans (aD.set rfl)) ?_
    exact ⟨c, x / many, y, z, ns, set_at e1, oh e2 (Nat.ne_of_lt hcb), hcb, Int.ediv_nonneg hx (by omega), hy, hz, hnl, hn⟩
  · refine ia_l e1 at1 ?_
    refine pD ?_
    refine mul_i (mulOk_r (by decide)) ?_
    refine int_i ?_
    refine mod_i (by decide) ?_
    generalize hE : (y + 1) * 39373 % 1000000007 = E
    have b1 : 0 ≤ E := by rw [← hE]; exact Int.emod_nonneg _ (by decide)
    have b2 : E < 1000000007 := by rw [← hE]; exact Int.emod_lt_of_pos _ (by decide)
    refine mul_i (mulOk_r (by omega)) ?_
    refine int_i ?_
    refine mod_i (by decide) ?_
    refine mul_i (mulOk_r (by decide)) ?_
    refine int_i ?_
    refine mod_i (by decide) ?_
    refine div_i (by decide) (by decide) ?_
    refine int_i ?_
    refine mod_i hm ?_
    exact q _ _ (Int.emod_nonneg _ (by omega)) (Int.emod_lt_of_pos _ hm) k0 ⟨c, x, y, z, ns, e1, e2, hcb, hx, hy, hz, hnl, hn⟩
theorem pureTake (evs : List EV) (h : EH) (Q : EK) (q : spTake evs h Q) : rdTake (aO Q) (bF ["_law_bag_here", "_law_many", "_law_cell", "_law_mixed_here", "_law_drawn", "_law_early", "_law_second"] evs) h := by
  obtain ⟨b, many, rfl, hm, hm2, ⟨c, x, y, z, ns, e1, e2, hcb, hx, hy, hz, hnl, hn⟩, q⟩ := q
  show rdTake (aO Q) [some (.ref b), some (.int many), none, none, none, none, none] h
  unfold rdTake
  rw [aH, bB]
  simp only [lB, lOp, ao, lC, gZ, gS]
  refine ia_l e1 at0 ?_
  refine eq_i ?_
  dsimp only
  split
  · simp only [aH, bA, dC, cQ, lOp, ao, lC, lSl, aP, aU, aa, ak, lCB, gZ, gS, sZ, sS]
    refine ia_l e1 at3 ?_
    refine ia_l e1 at2 ?_
    refine sl_l e2 ?_
    refine ⟨by rw [aN]; decide, ?_⟩
    obtain ⟨zn, rfl⟩ := Int.eq_ofNat_of_zero_le hz
    rw [oZ]
    have g1 : (h ++ [EO.lst ((ns.map EV.int).drop zn)] ++ [.lst [.int 0]])[h.length]? = some (.lst ((ns.map EV.int).drop zn)) := by simp
    have g2 : (h ++ [EO.lst ((ns.map EV.int).drop zn)] ++ [.lst [.int 0]])[(h ++ [EO.lst ((ns.map EV.int).drop zn)]).length]? = some (.lst [.int 0]) := aV
    refine add_l g1 g2 ?_ ?_
    · simp only [List.length_drop, List.length_map, List.length_singleton]
      rw [aN]; omega
    obtain ⟨v, vs, hv0, hv⟩ : ∃ (v : Int) (vs : List EV), 0 ≤ v ∧ (ns.map EV.int).drop zn ++ [.int 0] = .int v :: vs := by
      cases hd : ns.drop zn with
      | nil => exact ⟨0, [], by decide, by rw [← List.map_drop, hd]; rfl⟩
      | cons n r => exact ⟨n, r.map EV.int ++ [.int 0], hn n (List.mem_of_mem_drop (i := zn) (by rw [hd]; exact List.mem_cons_self)), by rw [← List.map_drop, hd]; rfl⟩
    rw [hv]
    refine ia_l aV at0 ?_
    generalize hg : h ++ [EO.lst ((ns.map EV.int).drop zn)] ++ [.lst [.int 0]] ++ [.lst (.int v :: vs)] = hA
    have kA : aD (is1 b) h hA := by
      rw [← hg, List.append_assoc, List.append_assoc]; exact aD.app _
    have a1 : hA[b]? = some (.lst [.int x, .int y, .int zn, .ref c]) := by
      rw [← hg]; exact dG (dG (dG e1 _) _) _
    have a2 : hA[c]? = some (.lst (ns.map EV.int)) := kA.2 _ _ e2 (Nat.ne_of_lt hcb)
    clear hg g1 g2
    refine get_l a1 (by decide) rfl ?_
    dsimp only
    refine set_l a1 (k := 2) rfl ?_
    simp only [sZ, sS]
    have b1 := set_at (o := EO.lst ([.int x, .int y, .int (zn + 1), .ref c] : List EV)) a1
    have b2 := oh (o := EO.lst ([.int x, .int y, .int (zn + 1), .ref c] : List EV)) a2 (Nat.ne_of_lt hcb)
    have kB := kA.trans (aD.set (o := EO.lst ([.int x, .int y, .int (zn + 1), .ref c] : List EV)) (show is1 b b from rfl))
    generalize hA.set b (.lst ([.int x, .int y, .int (zn + 1), .ref c] : List EV)) = hB at b1 b2 kB ⊢
    refine pow_i (by unfold CPow; decide) ?_
    refine ge_i ?_
    refine int_b ?_
    refine mul_i (mulOk_r (by split <;> decide)) ?_
    have hx' : 0 ≤ v * (if decide ((10 : Int) ^ Int.toNat 18 ≤ v) = true then 1 else 0) := by
      split <;> omega
    generalize v * (if decide ((10 : Int) ^ Int.toNat 18 ≤ v) = true then (1 : Int) else 0) = x' at hx' ⊢
    refine sa_l b1 (k := 0) rfl ?_
    simp only [sZ, sS]
    have c1 := set_at (o := EO.lst ([.int x', .int y, .int (zn + 1), .ref c] : List EV)) b1
    have c2 := oh (o := EO.lst ([.int x', .int y, .int (zn + 1), .ref c] : List EV)) b2 (Nat.ne_of_lt hcb)
    have kC := kB.trans (aD.set (o := EO.lst ([.int x', .int y, .int (zn + 1), .ref c] : List EV)) (show is1 b b from rfl))
    generalize hB.set b (.lst ([.int x', .int y, .int (zn + 1), .ref c] : List EV)) = hC at c1 c2 kC ⊢
    refine ia_l c1 at1 ?_
    refine mul_i (mulOk_r (by decide)) ?_
    refine int_i ?_
    refine mod_i (by decide) ?_
    refine pD ?_
    refine ia_l c1 at2 ?_
    refine mul_i (mulOk_l (by decide)) ?_
    refine pD ?_
    refine int_i ?_
    refine mod_i (by decide) ?_
    have hy' : 0 ≤ (y * 48271 + v % 2147483647 + 7919 * ((zn : Int) + 1)) % 2147483647 := Int.emod_nonneg _ (by decide)
    generalize (y * 48271 + v % 2147483647 + 7919 * ((zn : Int) + 1)) % 2147483647 = y' at hy' ⊢
    refine sa_l c1 (k := 1) rfl ?_
    simp only [sZ, sS]
    have d1 := set_at (o := EO.lst ([.int x', .int y', .int (zn + 1), .ref c] : List EV)) c1
    have d2 := oh (o := EO.lst ([.int x', .int y', .int (zn + 1), .ref c] : List EV)) c2 (Nat.ne_of_lt hcb)
    have kD := kC.trans (aD.set (o := EO.lst ([.int x', .int y', .int (zn + 1), .ref c] : List EV)) (show is1 b b from rfl))
    exact take_end (env := [some (.ref b), some (.int many), some (.int v), some _, none, none, none]) hm hm2 kD d1 d2 hcb hx' hy' (by omega) hnl hn q rfl rfl rfl
  · exact take_end (env := [some (.ref b), some (.int many), none, none, none, none, none]) hm hm2 .refl e1 e2 hcb hx hy hz hnl hn q rfl rfl rfl
theorem lenTake (evs : List EV) (h : EH) (Q : EK) (q : spTake evs h Q) : evs.length = ["_law_bag_here", "_law_many"].length := by
  obtain ⟨_, _, rfl, _⟩ := q; rfl
theorem aD.other {b l : Nat} {h h' : EH} {o : EO} (k : aD (is1 b) h h') (e : h[l]? = some o) (n : l ≠ b) : h'[l]? = some o := k.2 _ _ e n
theorem pureOne (evs : List EV) (h : EH) (Q : EK) (q : spOne evs h Q) : rdOne (aO Q) (bF ["_law_bag_here", "_law_some"] evs) h := by
  obtain ⟨b, l, xs, rfl, e, hne, hl, hlb, B, q⟩ := q
  show rdOne (aO Q) [some (.ref b), some (.ref l)] h
  simp only [rdOne, aH, bA, aM, dX, dh, bB, lOp, ao, lC, lB, lT, iY, lOr, cD, lIf, bD, jJ, dO, ak, aa, aG, aU, lCB, lBM, lSl, aP, aW, gj, lIt, bV, dU, jN, gq, dW, cQ, dC, lLc, jH, dY, aA, bH, gZ, gS, sZ, sS, gW, bJ, fB, iW]
  refine len_l e ?_
  have hp : 0 < xs.length := List.length_pos_iff.mpr hne
  refine ⟨b, xs.length, rfl, by omega, by rw [aN] at hl; omega, B, fun d h1 d0 d1 k1 B1 => ?_⟩
  obtain ⟨n, rfl⟩ := Int.eq_ofNat_of_zero_le d0
  have hn : n < xs.length := by omega
  refine ia_l (k1.other e hlb) (L2.atI_nat (List.getElem?_eq_getElem hn)) ?_
  exact q _ _ (List.getElem_mem hn) k1 B1
theorem lenOne (evs : List EV) (h : EH) (Q : EK) (q : spOne evs h Q) : evs.length = ["_law_bag_here", "_law_some"].length := by
  obtain ⟨_, _, _, rfl, _⟩ := q; rfl
theorem bM.keep {h h' : EH} {b : Nat} (B : bM h b) (k : aD no1 h h') : bM h' b := by
  obtain ⟨c, x, y, z, ns, e1, e2, r⟩ := B
  exact ⟨c, x, y, z, ns, k.at e1, k.at e2, r⟩
theorem bM.lt {h : EH} {b : Nat} (B : bM h b) : b < h.length := by
  obtain ⟨c, x, y, z, ns, e1, _⟩ := B
  exact gK e1
theorem bM.set {h : EH} {b r : Nat} {o : EO} (B : bM h b) (n : b < r) : bM (h.set r o) b := by
  obtain ⟨c, x, y, z, ns, e1, e2, l, r'⟩ := B
  exact ⟨c, x, y, z, ns, oh e1 (Nat.ne_of_lt n), oh e2 (Nat.ne_of_lt (Nat.lt_trans l n)), l, r'⟩
theorem pureMixed (evs : List EV) (h : EH) (Q : EK) (q : spMixed evs h Q) : rdMixed (aO Q) (bF ["_law_bag_here", "_law_things", "_law_found", "_law_thing"] evs) h := by
  obtain ⟨b, l, xs, rfl, e, hl, hlb, B, q⟩ := q
  show rdMixed (aO Q) [some (.ref b), some (.ref l), none, none] h
  simp only [rdMixed, aH, bA, aM, dX, dh, bB, lOp, ao, lC, lB, lT, iY, lOr, cD, lIf, bD, jJ, dO, ak, aa, aG, aU, lCB, lBM, lSl, aP, aW, gj, lIt, bV, dU, jN, gq, dW, cQ, dC, lLc, jH, dY, aA, bH, gZ, gS, sZ, sS, gW, bJ, fB, iW, List.length_nil]
  refine ⟨by rw [aN]; decide, ?_⟩
  have hlt := gK e
  have hbt := B.lt
  rw [dG e]
  refine loop_ind (fun left env h' => ∃ (done acc : List EV) (x : Option EV), xs = done ++ left ∧ acc.Perm done ∧ env = [some (.ref b), some (.ref l), some (.ref h.length), x] ∧ aD (is1 b) h h' ∧ h'[h.length]? = some (.lst acc) ∧ bM h' b) ?_ ?_ _ _ _ ⟨[], [], none, rfl, .refl _, rfl, aD.app _, aV, B.keep (aD.app _)⟩
  · rintro env h' ⟨done, acc, x, rfl, p, rfl, k, e', B'⟩
    refine ⟨k.other e hlb, ?_⟩
    simp only [aH, bA, aM, dX, dh, bB, lOp, ao, lC, lB, lT, iY, lOr, cD, lIf, bD, jJ, dO, ak, aa, aG, aU, lCB, lBM, lSl, aP, aW, gj, lIt, bV, dU, jN, gq, dW, cQ, dC, lLc, jH, dY, aA, bH, gZ, gS, sZ, sS, gW, bJ, fB, iW]
    exact q _ _ _ (by simpa using p) k (Nat.le_refl _) e' B'
  · rintro x left env h' kk ⟨done, acc, x0, rfl, p, rfl, k, e', B'⟩ hk
    refine ⟨k.other e hlb, ?_⟩
    simp only [ie, Pat.bind, aH, bA, aM, dX, dh, bB, lOp, ao, lC, lB, lT, iY, lOr, cD, lIf, bD, jJ, dO, ak, aa, aG, aU, lCB, lBM, lSl, aP, aW, gj, lIt, bV, dU, jN, gq, dW, cQ, dC, lLc, jH, dY, aA, bH, gZ, gS, sZ, sS, gW, bJ, fB, iW, isTy, e']
    refine ⟨trivial, ?_⟩
    refine len_l e' ?_
    refine pD ?_
    have hz : acc.length = done.length := p.length_eq
    simp only [List.length_append, List.length_cons] at hl
    refine ⟨b, acc.length + 1, rfl, by omega, by omega, B', fun d h1 d0 d1 k1 B1 => ?_⟩
    have hne : h.length ≠ b := by omega
    have e1 := k1.other e' hne
    refine ins_e e1 (by rw [aN]; omega) d0 (by omega) ?_
    refine hk _ _ ⟨done ++ [x], _, some x, by simp, ?_, rfl, ?_, set_at e1, ?_⟩
    · have p1 : (List.take d.toNat acc ++ [x] ++ List.drop d.toNat acc).Perm (x :: acc) := by
        have e3 : List.take d.toNat acc ++ [x] ++ List.drop d.toNat acc = List.take d.toNat acc ++ x :: List.drop d.toNat acc := by simp
        rw [e3]
        exact List.perm_middle.trans (by rw [List.take_append_drop])
      refine p1.trans ((p.cons x).trans ?_)
      exact (List.perm_append_singleton x done).symm
    · exact (k.trans k1).fresh (Nat.le_refl _)
    · exact B1.set hbt
theorem lenMixed (evs : List EV) (h : EH) (Q : EK) (q : spMixed evs h Q) : evs.length = ["_law_bag_here", "_law_things"].length := by
  obtain ⟨_, _, _, rfl, _⟩ := q; rfl
theorem pureAlike (evs : List EV) (h : EH) (Q : EK) (q : spAlike evs h Q) : rdAlike (aO Q) (bF ["_law_found", "_law_due"] evs) h := by
  obtain ⟨v, w, d, rfl, a', b', sd, zd, q⟩ := q
  show rdAlike (aO Q) [some v, some w] h
  simp only [rdAlike, aH, bA, aM, dX, dh, bB, lOp, ao, lC, lB, lT, iY, lOr, cD, lIf, bD, jJ, dO, ak, aa, aG, aU, lCB, lBM, lSl, aP, aW, gj, lIt, bV, dU, jN, gq, dW, cQ, dC, lLc, jH, dY, aA, bH, gZ, gS, sZ, sS, gW, bJ, fB, iW]
  refine eqE_same a' b' ?_
  simp only [if_true]
  refine ⟨d, a', sd, zd, ?_⟩
  refine ⟨d, b', sd, zd, ?_⟩
  refine eq_s ?_
  simpa using q
theorem lenAlike (evs : List EV) (h : EH) (Q : EK) (q : spAlike evs h Q) : evs.length = ["_law_found", "_law_due"].length := by
  obtain ⟨_, _, _, rfl, _⟩ := q; rfl
def rdAlpha : LS :=
    aM (lSl (aA spMixed (aa (ao 0) (aa (aU (aa (lC (.int 0)) (aa (lC (.int 1)) (aa (lC (.int 2)) (aa (lC (.int 3)) (aa (lC (.int 48)) (aa (lC (.int 999999999)) (aa (lOp powE (lC (.int 10)) (lC (.int 9))) (ak))))))))) (ak)))) (aP none) (aP (some (aA spOne (aa (ao 0) (aa (aU (aa (lC (.int 2)) (aa (lC (.int 3)) (aa (lC (.int 2)) (aa (lC (.int 1)) (aa (lC (.int 4)) (ak))))))) (ak)))))))
def rdText : LS :=
    aM (lCB tupleOf (aa (lLc (bV (aa (aA spTake (aa (ao 0) (aa (lOp bG (ao 2) (lC (.int 1))) (ak)))) (ak))) (.nm 3) (mY) (aA spOne (aa (ao 0) (aa (ao 1) (ak)))) [3]) (ak)))
def spAlpha : LSp := fun evs h Q => ∃ b : Nat, evs = [.ref b] ∧ bM h b ∧ ∀ (r : Nat) (ns : List Int) (h' : EH), ns.Nodup → 0 < ns.length → ns.length ≤ 4 → (∀ n ∈ ns, 0 ≤ n ∧ n ≤ 1000000000) → aD (is1 b) h h' → h.length ≤ r → h'[r]? = some (.lst (ns.map EV.int)) → bM h' b → Q (.ref r) h'
def spText : LSp := fun evs h Q => ∃ (b l most : Nat) (ns : List Int), evs = [.ref b, .ref l, .int most] ∧ h[l]? = some (.lst (ns.map EV.int)) ∧ ns ≠ [] ∧ ns.length ≤ 1000 ∧ l ≠ b ∧ most ≤ 1000000 ∧ bM h b ∧
  ∀ (ms : List Int) (h' : EH), ms.length ≤ most → (∀ m ∈ ms, m ∈ ns) → aD (is1 b) h h' → bM h' b → Q (.tup (ms.map EV.int)) h'
theorem pureAlpha (evs : List EV) (h : EH) (Q : EK) (q : spAlpha evs h Q) : rdAlpha (aO Q) (bF ["_law_bag_here"] evs) h := by
  obtain ⟨b, rfl, B, q⟩ := q
  show rdAlpha (aO Q) [some (.ref b)] h
  simp only [rdAlpha, aH, bA, aM, dX, dh, bB, lOp, ao, lC, lB, lT, iY, lOr, cD, lIf, bD, jJ, dO, ak, aa, aG, aU, lCB, lBM, lSl, aP, aW, gj, lIt, bV, dU, jN, gq, dW, cQ, dC, lLc, jH, dY, aA, bH, gZ, gS, sZ, sS, bJ, fB, iW]
  refine ⟨by unfold CPow; decide, by simp [aN], ?_⟩
  have hb := B.lt
  have eM : [EV.int 0, EV.int 1, EV.int 2, EV.int 3, EV.int 48, EV.int 999999999, EV.int (10 ^ Int.toNat 9)] = ([0, 1, 2, 3, 48, 999999999, 1000000000] : List Int).map EV.int := by simp
  rw [eM]
  refine ⟨b, _, _, rfl, aV, by simp, Nat.ne_of_gt hb, B.keep (aD.app _), fun r ys h1 pm k1 g1 e1 B1 => ?_⟩
  refine ⟨by simp [aN], ?_⟩
  refine ⟨b, _, _, rfl, aV, by simp, by simp [aN], Nat.ne_of_gt B1.lt, B1.keep (aD.app _), fun x h2 hx k2 B2 => ?_⟩
  obtain ⟨zs, rfl, pz⟩ : ∃ zs : List Int, ys = zs.map EV.int ∧ zs.Perm [0, 1, 2, 3, 48, 999999999, 1000000000] := by
    have key : ∀ (ys : List EV) (l : List Int), ys.Perm (l.map EV.int) → ∃ zs : List Int, ys = zs.map EV.int ∧ zs.Perm l := by
      intro ys l hp
      have hs : ∀ y ∈ ys, ∃ i, y = EV.int i := fun y hy => by
        obtain ⟨i, _, rfl⟩ := List.mem_map.mp (hp.mem_iff.mp hy)
        exact ⟨i, rfl⟩
      let f : EV → Int := fun v => match v with
        | .int i => i
        | _ => 0
      refine ⟨ys.map f, ?_, ?_⟩
      · rw [List.map_map]
        conv => lhs; rw [← List.map_id ys]
        refine List.map_congr_left fun y hy => ?_
        obtain ⟨i, rfl⟩ := hs y hy
        rfl
      · have := hp.map f
        rw [List.map_map] at this
        rw [show l.map (f ∘ EV.int) = l from by
          conv => rhs; rw [← List.map_id l]
          rfl] at this
        exact this
    exact key _ _ pm
  obtain ⟨m, rfl, m1, m2⟩ : ∃ m : Nat, x = .int m ∧ 0 < m ∧ m ≤ 4 := by
    simp only [List.mem_cons, List.not_mem_nil, or_false] at hx
    rcases hx with rfl | rfl | rfl | rfl | rfl
    · exact ⟨2, rfl, by decide, by decide⟩
    · exact ⟨3, rfl, by decide, by decide⟩
    · exact ⟨2, rfl, by decide, by decide⟩
    · exact ⟨1, rfl, by decide, by decide⟩
    · exact ⟨4, rfl, by decide, by decide⟩
  simp only []
  have g2 : h.length + 1 ≤ r := by simpa using g1
  have e2 := k2.other (dG e1 _) (show r ≠ b by omega)
  refine sl_l e2 ?_
  rw [cut_to, ← List.map_take]
  have lz : zs.length = 7 := by rw [pz.length_eq]; rfl
  have kk : aD (is1 b) h h2 := ((aD.app _).trans k1).trans ((aD.app _).trans k2)
  refine q _ _ _ ?_ ?_ ?_ (fun n hn => ?_) (kk.trans (aD.app _)) kk.1 aV (B2.keep (aD.app _))
  · exact ((pz.nodup_iff).mpr (by decide)).sublist (List.take_sublist _ _)
  · rw [List.length_take]; omega
  · rw [List.length_take]; omega
  · have := pz.mem_iff.mp (List.mem_of_mem_take hn)
    simp only [List.mem_cons, List.not_mem_nil, or_false] at this
    omega
theorem pureText (evs : List EV) (h : EH) (Q : EK) (q : spText evs h Q) : rdText (aO Q) (bF ["_law_bag_here", "_law_letters", "_law_most", "_law_k"] evs) h := by
  obtain ⟨b, l, most, ns, rfl, e, ne, nl, hlb, hs, B, q⟩ := q
  show rdText (aO Q) [some (.ref b), some (.ref l), some (.int most), none] h
  simp only [rdText, aH, bA, aM, dX, dh, bB, lOp, ao, lC, lB, lT, iY, lOr, cD, lIf, bD, jJ, dO, ak, aa, aG, aU, lCB, lBM, lSl, aP, aW, gj, lIt, bV, dU, jN, gq, dW, cQ, dC, lLc, jH, dY, aA, bH, gZ, gS, sZ, sS, bJ, fB, iW]
  refine pD ?_
  refine ⟨b, most + 1, rfl, by omega, by omega, B, fun d h1 d0 d1 k1 B1 => ?_⟩
  obtain ⟨size, rfl⟩ := Int.eq_ofNat_of_zero_le d0
  have e := k1.other e hlb
  simp only []
  refine ⟨⟨by omega, by omega⟩, ?_⟩
  have hb := B1.lt
  have hl := gK e
  refine lc_ind (fun left acc h' => ∃ ms : List Int, acc = ms.map EV.int ∧ (∀ m ∈ ms, m ∈ ns) ∧ ms.length + left.length = size ∧ aD (is1 b) h1 h' ∧ bM h' b ∧ ∀ v ∈ left, ∃ i : Int, v = .int i) ?_ ?_ _ [] _ aV ⟨[], rfl, fun c hc => by simp at hc, by simp [j5], aD.app _, B1.keep (aD.app _), ?_⟩
  · rintro acc h4 ⟨ms, rfl, hm, hl4, k4, B4, _⟩ e4
    refine ⟨trivial, ?_⟩
    simp only [tupleOf, e4]
    simp only [List.length_nil, Nat.add_zero] at hl4
    exact q _ _ (by omega) hm (k1.trans k4) B4
  · rintro x left acc h4 ky kn ⟨ms, rfl, hm, hl4, k4, B4, hle⟩ e4 hky _
    obtain ⟨xi, rfl⟩ := hle x (by simp)
    refine ⟨trivial, iD ?_⟩
    simp only [mY, aH, bA, aM, dX, dh, bB, lOp, ao, lC, lB, lT, iY, lOr, cD, lIf, bD, jJ, dO, ak, aa, aG, aU, lCB, lBM, lSl, aP, aW, gj, lIt, bV, dU, jN, gq, dW, cQ, dC, lLc, jH, dY, aA, bH, gZ, gS, sZ, sS, bJ, fB, iW, if_true]
    refine ⟨b, l, _, rfl, k4.other e hlb, by simpa using ne, by rw [List.length_map, aN]; omega, hlb, B4, fun y h5 hy k5 B5 => ?_⟩
    obtain ⟨c, hc, rfl⟩ := List.mem_map.mp hy
    have hbl := B4.lt
    simp only [List.length_cons] at hl4
    refine hky _ _ (k5.other e4 (by omega)) (by rw [List.length_map, aN]; omega) ⟨ms ++ [c], by simp, ?_, by simp; omega, (k4.trans k5).fresh (Nat.le_refl _), B5.set hb, fun v hv => hle v (List.mem_cons_of_mem _ hv)⟩
    intro z hz
    rcases List.mem_append.mp hz with z1 | z1
    · exact hm z z1
    · rw [List.mem_singleton.mp z1]; exact hc
  · intro v hv
    unfold j5 at hv
    obtain ⟨i, _, rfl⟩ := List.mem_map.mp hv
    exact ⟨_, rfl⟩
structure Ad where
  a_Book : Addr
  a_Comparer : Addr
  a_Watch : Addr
  a_GainTable : Addr
  a_GameTable : Addr
  a_Lane : Addr
  a_Machine : Addr
  a_Nearest : Addr
  a_Prices : Addr
  a_Rulebook : Addr
  a_Sender : Addr
  a_Speaker : Addr
  a_Standing : Addr
  a_Writer : Addr
  a_Tails : Addr
  a_Teasing : Addr
  a_VersusTable : Addr
  a_WaitTable : Addr
  a_TURNED : Addr
  a_WORD_OF : Addr
  a_WORDS : Addr
  a_STEP_OF : Addr
  a_EarlyError : Addr
  a_AlreadyEnded : Addr
  a_BadArrow : Addr
  a_BadLine : Addr
  a_BadRule : Addr
  a_BeyondEnd : Addr
  a_Broken : Addr
  a_Contradiction : Addr
  a_DoesNotFit : Addr
  a_Ended : Addr
  a_EndsShort : Addr
  a_Finished : Addr
  a_KeepNotShown : Addr
  a_NeedsNoPromise : Addr
  a_NoDeed : Addr
  a_NoElder : Addr
  a_NoRule : Addr
  a_NoSaying : Addr
  a_NoStand : Addr
  a_NoSuchLetter : Addr
  a_NoTick : Addr
  a_NoWait : Addr
  a_NotARing : Addr
  a_NotAScript : Addr
  a_NotAWalk : Addr
  a_NotClaimed : Addr
  a_NotComparable : Addr
  a_NotHeights : Addr
  a_NotLet : Addr
  a_NotOnRim : Addr
  a_NotSent : Addr
  a_NotWhole : Addr
  a_Nothing : Addr
  a_Stopped : Addr
  a_TooMany : Addr
  a_UnderLag : Addr
  a_UnderTotal : Addr
  a_Unsettled : Addr
  a_Wrong : Addr
theorem atI_n {α : Type} (xs : List α) (i : Nat) : atI xs (i : Int) = xs[i]? := by
  by_cases h : i < xs.length
  · exact (L2.atI_nat (List.getElem?_eq_getElem h)).trans (List.getElem?_eq_getElem h).symm
  · rw [List.getElem?_eq_none (by omega)]
    unfold atI ixN
    rw [if_pos (by omega), if_neg (by omega)]
    rfl
def m9 (_ : Ad) : LSp := spBag
def bf (_ : Ad) : LSp := spTake
def aY (_ : Ad) : LSp := spOne
def mV (_ : Ad) : LSp := spMixed
def gR (_ : Ad) : LSp := spAlpha
def d7 (_ : Ad) : LSp := spText
def cA (_ : Ad) : LSp := spAlike
abbrev N__law_bag : List Str := ["_law_script", "_law_cell"]
def t__law_bag (ad : Ad) : LS :=
    aM (aU (aa (lC (.int 0)) (aa (lC (.int 1234567891)) (aa (lC (.int 0)) (aa (lLc (lIt (lSl (ao 0) (aP none) (aP (some (lC (.int 63)))))) (.nm 1) (mY) (lCB absE (aa (ao 1) (ak))) [1]) (ak))))))
abbrev N__law_take : List Str := ["_law_bag_here", "_law_many", "_law_cell", "_law_mixed_here", "_law_drawn", "_law_early", "_law_second"]
def t__law_take (ad : Ad) : LS :=
    aH (bB (lB (lOp (eqE false) (lOp ixA (ao 0) (lC (.int 0))) (lC (.int 0))))
      (aH (bA (lOp ixA (lOp bG (lSl (lOp ixA (ao 0) (lC (.int 3))) (aP (some (lOp ixA (ao 0) (lC (.int 2))))) (aP none)) (aU (aa (lC (.int 0)) (ak)))) (lC (.int 0))) 2) <|
    aH (dC (fun i j => i + j) (ao 0) (lC (.int 2)) (lC (.int 1))) <|
    aH (cQ (ao 0) (lC (.int 0)) (lOp iK (ao 2) (lCB intOf (aa (lOp geE (ao 2) (lOp powE (lC (.int 10)) (lC (.int 18)))) (ak))))) <|
    aH (bA (lOp bG (lOp bG (lOp iK (lOp ixA (ao 0) (lC (.int 1))) (lC (.int 48271))) (lOp modE (lCB intOf (aa (ao 2) (ak))) (lC (.int 2147483647)))) (lOp iK (lC (.int 7919)) (lOp ixA (ao 0) (lC (.int 2))))) 3) <|
    cQ (ao 0) (lC (.int 1)) (lOp modE (lCB intOf (aa (ao 3) (ak))) (lC (.int 2147483647))))
      (aW)) <|
    aH (bB (lB (lOp gtE (lOp ixA (ao 0) (lC (.int 0))) (lC (.int 0))))
      (aH (bA (lOp modE (lCB intOf (aa (lOp ixA (ao 0) (lC (.int 0))) (ak))) (ao 1)) 4) <|
    aH (cQ (ao 0) (lC (.int 0)) (lOp fdivE (lCB intOf (aa (lOp ixA (ao 0) (lC (.int 0))) (ak))) (ao 1))) <|
    aM (ao 4))
      (aW)) <|
    aH (bA (lOp modE (lCB intOf (aa (lOp iK (lOp bG (lOp ixA (ao 0) (lC (.int 1))) (lC (.int 1))) (lC (.int 39373))) (ak))) (lC (.int 1000000007))) 5) <|
    aH (bA (lOp modE (lCB intOf (aa (lOp iK (lOp modE (lCB intOf (aa (lOp iK (ao 5) (ao 5)) (ak))) (lC (.int 998244353))) (lC (.int 30011))) (ak))) (lC (.int 998244353))) 6) <|
    aM (lOp modE (lCB intOf (aa (lOp fdivE (ao 6) (lC (.int 7))) (ak))) (ao 1))
abbrev N__law_one : List Str := ["_law_bag_here", "_law_some"]
def t__law_one (ad : Ad) : LS :=
    aM (lOp ixA (ao 1) (aA (bf ad) (aa (ao 0) (aa (lCB gJ (aa (ao 1) (ak))) (ak)))))
abbrev N__law_mixed : List Str := ["_law_bag_here", "_law_things", "_law_found", "_law_thing"]
def t__law_mixed (ad : Ad) : LS :=
    aH (bA (aU (ak)) 2) <|
    aH (gj (lIt (ao 1)) (.nm 3)
      (dh (lBM "list" insertE (ao 2) (aa (aA (bf ad) (aa (ao 0) (aa (lOp bG (lCB gJ (aa (ao 2) (ak))) (lC (.int 1))) (ak)))) (aa (ao 3) (ak)))))) <|
    aM (ao 2)
abbrev N__law_alphabet : List Str := ["_law_bag_here"]
def t__law_alphabet (ad : Ad) : LS :=
    aM (lSl (aA (mV ad) (aa (ao 0) (aa (aU (aa (lC (.int 0)) (aa (lC (.int 1)) (aa (lC (.int 2)) (aa (lC (.int 3)) (aa (lC (.int 48)) (aa (lC (.int 999999999)) (aa (lOp powE (lC (.int 10)) (lC (.int 9))) (ak))))))))) (ak)))) (aP none) (aP (some (aA (aY ad) (aa (ao 0) (aa (aU (aa (lC (.int 2)) (aa (lC (.int 3)) (aa (lC (.int 2)) (aa (lC (.int 1)) (aa (lC (.int 4)) (ak))))))) (ak)))))))
abbrev N__law_text : List Str := ["_law_bag_here", "_law_letters", "_law_most", "_law_k"]
def t__law_text (ad : Ad) : LS :=
    aM (lCB tupleOf (aa (lLc (bV (aa (aA (bf ad) (aa (ao 0) (aa (lOp bG (ao 2) (lC (.int 1))) (ak)))) (ak))) (.nm 3) (mY) (aA (aY ad) (aa (ao 0) (aa (ao 1) (ak)))) [3]) (ak)))
abbrev N__law_alike : List Str := ["_law_found", "_law_due"]
def t__law_alike (ad : Ad) : LS :=
    aM (bD (lOp (eqE false) (ao 0) (ao 1)) (lOp (eqE false) (lCB reprE (aa (ao 0) (ak))) (lCB reprE (aa (ao 1) (ak)))))
theorem pure__law_bag (ad : Ad) (evs : List EV) (h : EH) (Q : EK) (q : m9 ad evs h Q) : t__law_bag ad (aO Q) (bF N__law_bag evs) h := pureBag evs h Q q
theorem pure__law_take (ad : Ad) (evs : List EV) (h : EH) (Q : EK) (q : bf ad evs h Q) : t__law_take ad (aO Q) (bF N__law_take evs) h := pureTake evs h Q q
theorem pure__law_one (ad : Ad) (evs : List EV) (h : EH) (Q : EK) (q : aY ad evs h Q) : t__law_one ad (aO Q) (bF N__law_one evs) h := pureOne evs h Q q
theorem pure__law_mixed (ad : Ad) (evs : List EV) (h : EH) (Q : EK) (q : mV ad evs h Q) : t__law_mixed ad (aO Q) (bF N__law_mixed evs) h := pureMixed evs h Q q
theorem pure__law_alphabet (ad : Ad) (evs : List EV) (h : EH) (Q : EK) (q : gR ad evs h Q) : t__law_alphabet ad (aO Q) (bF N__law_alphabet evs) h := pureAlpha evs h Q q
theorem pure__law_text (ad : Ad) (evs : List EV) (h : EH) (Q : EK) (q : d7 ad evs h Q) : t__law_text ad (aO Q) (bF N__law_text evs) h := pureText evs h Q q
theorem pure__law_alike (ad : Ad) (evs : List EV) (h : EH) (Q : EK) (q : cA ad evs h Q) : t__law_alike ad (aO Q) (bF N__law_alike evs) h := pureAlike evs h Q q
theorem len__law_bag (ad : Ad) (evs : List EV) (h : EH) (Q : EK) (q : m9 ad evs h Q) : evs.length = ["_law_script"].length := lenBag evs h Q q
theorem len__law_take (ad : Ad) (evs : List EV) (h : EH) (Q : EK) (q : bf ad evs h Q) : evs.length = ["_law_bag_here", "_law_many"].length := lenTake evs h Q q
theorem len__law_one (ad : Ad) (evs : List EV) (h : EH) (Q : EK) (q : aY ad evs h Q) : evs.length = ["_law_bag_here", "_law_some"].length := lenOne evs h Q q
theorem len__law_mixed (ad : Ad) (evs : List EV) (h : EH) (Q : EK) (q : mV ad evs h Q) : evs.length = ["_law_bag_here", "_law_things"].length := lenMixed evs h Q q
theorem len__law_alphabet (ad : Ad) (evs : List EV) (h : EH) (Q : EK) (q : gR ad evs h Q) : evs.length = ["_law_bag_here"].length := by obtain ⟨_, rfl, _⟩ := q; rfl
theorem len__law_text (ad : Ad) (evs : List EV) (h : EH) (Q : EK) (q : d7 ad evs h Q) : evs.length = ["_law_bag_here", "_law_letters", "_law_most"].length := by obtain ⟨_, _, _, _, rfl, _⟩ := q; rfl
theorem len__law_alike (ad : Ad) (evs : List EV) (h : EH) (Q : EK) (q : cA ad evs h Q) : evs.length = ["_law_found", "_law_due"].length := lenAlike evs h Q q
end Y
namespace Y
def omin : Option Int → Option Int → Option Int
  | none, b => b
  | a, none => a
  | some a, some b => some (min a b)
def oadd (a : Option Int) (k : Int) : Option Int := a.map (· + k)
structure GridOf where
  same : Nat → Nat → Bool
  drop : Nat → Int
  put : Nat → Int
  lag : Nat → Nat → Bool
end Y
namespace Y
open PySem PySem.Spec PyProof.Rows L2
abbrev tx (xs : List Int) : EV := .tup (xs.map EV.int)
def pairE (p : Int × Int) : EV := .tup [.int p.1, .int p.2]
inductive Prom where
  | none | total (g : Int) | lag (g : Int)
def Prom.e : Prom → EV
  | .none => .tup [.str [110, 111, 110, 101]]
  | .total g => .tup [.str [116, 111, 116, 97, 108], .int g]
  | .lag g => .tup [.str [108, 97, 103], .int g]
def Prom.ok : Prom → Nat → Nat → Bool
  | .lag g, i, j => decide ((((i : Int) - j).natAbs : Int) ≤ g)
  | _, _, _ => true
abbrev Tab := List (Int × (Int × Int))
def gH (l : Tab) : List (EV × EV) := l.map fun q => (.int q.1, pairE q.2)
def cost (l : Tab) (x : Int) : Int × Int := (l.lookup x).getD (1, 1)
def PrAt (ad : Ad) (h : EH) (r : Nat) (l : Tab) : Prop := ∃ d, h[r]? = some (.slo ad.a_Prices [some (.ref d)]) ∧ h[d]? = some (.dic (gH l))
structure Wd where
  l : List Int
  r : List Int
  c : Tab
  p : Prom
theorem tab_get (l : Tab) (x : Int) : (dGet (gH l) (.int x)).getD (.tup [.int 1, .int 1]) = pairE (cost l x) := by
  induction l with
  | nil => rfl
  | cons q l ih =>
    obtain ⟨k, c⟩ := q
    unfold gH at ih ⊢
    rw [List.map_cons, dGet]
    by_cases e : k = x
    · subst e; simp [kEq, cost]
    · have e2 : (x == k) = false := by simpa using fun z => e z.symm
      simpa [kEq, e, cost, List.lookup_cons, e2] using ih
structure TabOk (l : Tab) : Prop where
  nd : (l.map (·.1)).Nodup
  rg : ∀ q ∈ l, (0 ≤ q.1 ∧ q.1 ≤ 1000000000) ∧ (1 ≤ q.2.1 ∧ q.2.1 ≤ 9) ∧ (1 ≤ q.2.2 ∧ q.2.2 ≤ 9)
theorem tab_put {t : Tab} {x : Int} {c : Int × Int} (h : x ∉ t.map (·.1)) : dPut (gH t) (.int x) (pairE c) = gH (t ++ [(x, c)]) := by
  have g : dGet (gH t) (.int x) = none := by
    induction t with
    | nil => rfl
    | cons q t ih =>
      simp only [List.map_cons, List.mem_cons, not_or] at h
      unfold gH at ih ⊢
      rw [List.map_cons, dGet]
      rw [if_neg (by simp only [kEq, decide_eq_true_eq]; exact fun z => h.1 z.symm)]
      exact ih h.2
  unfold dPut dHas
  rw [g]
  simp [gH]
def PromOk : Prom → Prop
  | .none => True
  | .total g => 0 ≤ g ∧ g ≤ 60
  | .lag g => 1 ≤ g ∧ g ≤ 4
def iV (ad : Ad) : LSp := fun evs h Q => ∃ b : Nat, evs = [.ref b] ∧ bM h b ∧ ∀ (p : Prom) (h' : EH), PromOk p → aD (is1 b) h h' → bM h' b → Q p.e h'
abbrev N__law_promise : List Str := ["_law_bag_here", "_law_way"]
def lH (ad : Ad) : LS :=
    aH (bA (aA (bf ad) (aa (ao 0) (aa (lC (.int 3)) (ak)))) 1) <|
    aH (bB (lB (lOp (eqE false) (ao 1) (lC (.int 0))))
      (aM (aG (aa (lC (.str [110, 111, 110, 101])) (ak))))
      (aW)) <|
    aH (bB (lB (lOp (eqE false) (ao 1) (lC (.int 1))))
      (aM (aG (aa (lC (.str [108, 97, 103])) (aa (lOp bG (lC (.int 1)) (aA (bf ad) (aa (ao 0) (aa (lC (.int 4)) (ak))))) (ak)))))
      (aW)) <|
    aM (aG (aa (lC (.str [116, 111, 116, 97, 108])) (aa (aA (aY ad) (aa (ao 0) (aa (aU (aa (lC (.int 2)) (aa (lC (.int 0)) (aa (lC (.int 1)) (aa (lC (.int 3)) (aa (lC (.int 4)) (aa (lC (.int 6)) (aa (lC (.int 9)) (aa (lC (.int 14)) (aa (lC (.int 60)) (ak))))))))))) (ak)))) (ak))))
theorem len__law_promise (ad : Ad) (evs : List EV) (h : EH) (Q : EK) (q : iV ad evs h Q) : evs.length = ["_law_bag_here"].length := by
  obtain ⟨_, rfl, _⟩ := q; rfl
theorem pure__law_promise (ad : Ad) (evs : List EV) (h : EH) (Q : EK) (q : iV ad evs h Q) : lH ad (aO Q) (bF N__law_promise evs) h := by
  obtain ⟨b, rfl, B, q⟩ := q
  show lH ad (aO Q) [some (.ref b), none] h
  simp only [lH, aH, bA, aM, dX, dh, bB, lOp, ao, lC, lB, lT, iY, lOr, cD, lIf, bD, jJ, dO, ak, aa, aG, aU, lCB, lBM, lSl, aP, aW, gj, lIt, bV, dU, jN, gq, dW, cQ, dC, lLc, jH, dY, aA, bH, gZ, gS, sZ, sS, bJ, fB, iW]
  refine ⟨b, 3, rfl, by decide, by decide, B, fun d h1 d0 d1 k1 B1 => eq_i ?_⟩
  simp only [Bool.false_xor]
  split
  · exact ⟨by simp [aN], q .none _ trivial k1 B1⟩
  · refine eq_i ?_
    simp only [Bool.false_xor]
    split
    · refine ⟨b, 4, rfl, by decide, by decide, B1, fun p1 h3 p10 p11 k3 B3 => pD ⟨by simp [aN], ?_⟩⟩
      exact q (.lag (1 + p1)) _ ⟨by omega, by omega⟩ (k1.trans k3) B3
    · refine ⟨by simp [aN], ?_⟩
      refine ⟨b, _, _, rfl, aV, by simp, by simp [aN], Nat.ne_of_gt B1.lt, B1.keep (aD.app _), fun x h2 hx k2 B2 => ⟨by simp [aN], ?_⟩⟩
      simp only [List.mem_cons, List.not_mem_nil, or_false] at hx
      have k : aD (is1 b) h h2 := k1.trans ((aD.app _).trans k2)
      rcases hx with rfl | rfl | rfl | rfl | rfl | rfl | rfl | rfl | rfl <;> exact q (.total _) _ ⟨by decide, by decide⟩ k B2
def isInt : EV → Bool
  | .int _ => true
  | _ => false
def jQ (v : EV) (lo hi : Int) : Bool := match v with
  | .int i => decide (lo ≤ i) && decide (i ≤ hi)
  | _ => false
def areC : EV → Bool
  | .tup [a, b] => jQ a 1 9 && jQ b 1 9
  | _ => false
def cC (ad : Ad) : LSp := fun evs h Q => ∃ v t, evs = [v] ∧ tyE v h = some t ∧ Q (.bl (isInt v)) h
def dI (ad : Ad) : LSp := fun evs h Q => ∃ v t lo hi, evs = [v, .int lo, .int hi] ∧ tyE v h = some t ∧ Q (.bl (jQ v lo hi)) h
def jC (ad : Ad) : LSp := fun evs h Q => ∃ v t, evs = [v] ∧ tyE v h = some t ∧ Q (.bl (jQ v 0 1000000000)) h
def nW (ad : Ad) : LSp := fun evs h Q => ∃ v t, evs = [v] ∧ tyE v h = some t ∧ (∀ xs, v ≠ .ktup xs) ∧ (∀ xs, v = .tup xs → xs.length = 2 → ∀ x ∈ xs, ∃ t, ∀ h', aD no1 h h' → tyE x h' = some t) ∧ ∀ h', aD no1 h h' → Q (.bl (areC v)) h'
abbrev N_is_integer : List Str := ["thing"]
def kh (ad : Ad) : LS :=
    aM (bD (lCB jM (aa (ao 0) (aa (lC (.ty "int")) (ak)))) (dO (lCB jM (aa (ao 0) (aa (lC (.ty "bool")) (ak))))))
abbrev N_is_between : List Str := ["thing", "low", "high"]
def oF (ad : Ad) : LS :=
    aM (bD (aA (cC ad) (aa (ao 0) (ak))) (bH leE leE (ao 1) (ao 0) (ao 2)))
abbrev N_is_letter : List Str := ["thing"]
def pF (ad : Ad) : LS :=
    aM (aA (dI ad) (aa (ao 0) (aa (lC (.int 0)) (aa (lC (.int 1000000000)) (ak)))))
abbrev N_are_costs : List Str := ["thing", "one"]
def qb (ad : Ad) : LS :=
    aH (bB (lOr (cD (lT (lCB jM (aa (ao 0) (aa (lC (.ty "tuple")) (ak)))))) (lB (lOp (eqE true) (lCB gJ (aa (ao 0) (ak))) (lC (.int 2)))))
      (aM (lC (.bl false)))
      (aW)) <|
    aM (lCB allE (aa (lLc (lIt (ao 0)) (.nm 1) (mY) (aA (dI ad) (aa (ao 1) (aa (lC (.int 1)) (aa (lC (.int 9)) (ak))))) [1]) (ak)))
theorem len_is_integer (ad : Ad) (evs : List EV) (h : EH) (Q : EK) (q : cC ad evs h Q) : evs.length = ["thing"].length := by
  obtain ⟨_, _, rfl, _⟩ := q; rfl
theorem len_is_between (ad : Ad) (evs : List EV) (h : EH) (Q : EK) (q : dI ad evs h Q) : evs.length = ["thing", "low", "high"].length := by
  obtain ⟨_, _, _, _, rfl, _⟩ := q; rfl
theorem len_is_letter (ad : Ad) (evs : List EV) (h : EH) (Q : EK) (q : jC ad evs h Q) : evs.length = ["thing"].length := by
  obtain ⟨_, _, rfl, _⟩ := q; rfl
theorem len_are_costs (ad : Ad) (evs : List EV) (h : EH) (Q : EK) (q : nW ad evs h Q) : evs.length = ["thing"].length := by
  obtain ⟨_, _, rfl, _⟩ := q; rfl
theorem pure_is_integer (ad : Ad) (evs : List EV) (h : EH) (Q : EK) (q : cC ad evs h Q) : kh ad (aO Q) (bF N_is_integer evs) h := by
  obtain ⟨v, t, rfl, ht, q⟩ := q
  show kh ad (aO Q) [some v] h
  have e : (isiB t "int" && !isiB t "bool") = isInt v := by
    cases v <;> simp [tyE] at ht <;> try (subst ht; rfl)
    split at ht <;> simp at ht <;> subst ht <;> rfl
  simp only [kh, aH, bA, aM, dX, dh, bB, lOp, ao, lC, lB, lT, iY, lOr, cD, lIf, bD, jJ, dO, ak, aa, aG, aU, lCB, lBM, lSl, aP, aW, gj, lIt, bV, dU, jN, gq, dW, cQ, dC, lLc, jH, dY, aA, bH, gZ, gS, sZ, sS, bJ, fB, iW, jM, ht]
  refine ⟨by simp, ?_⟩
  cases e1 : isiB t "int"
  · rw [e1] at e
    simp only [Bool.false_eq_true, if_false]
    rw [← e] at q; exact q
  · rw [e1] at e
    simp only [if_true, ht]
    refine ⟨by simp, ?_⟩
    rw [← e] at q
    simpa using q
theorem pure_is_between (ad : Ad) (evs : List EV) (h : EH) (Q : EK) (q : dI ad evs h Q) : oF ad (aO Q) (bF N_is_between evs) h := by
  obtain ⟨v, t, lo, hi, rfl, ht, q⟩ := q
  show oF ad (aO Q) [some v, some (.int lo), some (.int hi)] h
  simp only [oF, aH, bA, aM, dX, dh, bB, lOp, ao, lC, lB, lT, iY, lOr, cD, lIf, bD, jJ, dO, ak, aa, aG, aU, lCB, lBM, lSl, aP, aW, gj, lIt, bV, dU, jN, gq, dW, cQ, dC, lLc, jH, dY, aA, bH, gZ, gS, sZ, sS, bJ, fB, iW]
  refine ⟨v, t, rfl, ht, ?_⟩
  cases v with
  | int i =>
    simp only [isInt, if_true, jQ] at q ⊢
    refine le_i ?_
    dsimp only
    by_cases h1 : lo ≤ i
    · simp only [h1, decide_true, Bool.true_and, if_true] at q ⊢
      exact le_i q
    · simpa [h1] using q
  | _ => simpa [isInt, jQ] using q
theorem pure_is_letter (ad : Ad) (evs : List EV) (h : EH) (Q : EK) (q : jC ad evs h Q) : pF ad (aO Q) (bF N_is_letter evs) h := by
  obtain ⟨v, t, rfl, ht, q⟩ := q
  show pF ad (aO Q) [some v] h
  simp only [pF, aH, bA, aM, dX, dh, bB, lOp, ao, lC, lB, lT, iY, lOr, cD, lIf, bD, jJ, dO, ak, aa, aG, aU, lCB, lBM, lSl, aP, aW, gj, lIt, bV, dU, jN, gq, dW, cQ, dC, lLc, jH, dY, aA, bH, gZ, gS, sZ, sS, bJ, fB, iW]
  exact ⟨v, t, _, _, rfl, ht, q⟩
theorem pure_are_costs (ad : Ad) (evs : List EV) (h : EH) (Q : EK) (q : nW ad evs h Q) : qb ad (aO Q) (bF N_are_costs evs) h := by
  obtain ⟨v, t, rfl, ht, nk, ok, q⟩ := q
  show qb ad (aO Q) [some v, none] h
  simp only [qb, aH, bA, aM, dX, dh, bB, lOp, ao, lC, lB, lT, iY, lOr, cD, lIf, bD, jJ, dO, ak, aa, aG, aU, lCB, lBM, lSl, aP, aW, gj, lIt, bV, dU, jN, gq, dW, cQ, dC, lLc, jH, dY, aA, bH, gZ, gS, sZ, sS, bJ, fB, iW, lT, jM, ht]
  refine ⟨by simp, ?_⟩
  simp only [gW]
  by_cases hv : ∃ xs, v = .tup xs
  · obtain ⟨xs, rfl⟩ := hv
    simp [tyE] at ht
    subst ht
    simp only [show isiB "tuple" "tuple" = true from rfl, Bool.not_true, Bool.false_eq_true, if_false, gJ]
    refine eq_i ?_
    by_cases hl : xs.length = 2
    · simp only [hl]
      obtain ⟨a, b, rfl⟩ : ∃ a b, xs = [a, b] := by
        match xs, hl with
        | [a, b], _ => exact ⟨a, b, rfl⟩
      obtain ⟨ta, ha⟩ := ok _ rfl rfl a (by simp)
      obtain ⟨tb, hb⟩ := ok _ rfl rfl b (by simp)
      have fin := q (h ++ [.lst [.bl (jQ a 1 9), .bl (jQ b 1 9)]]) (aD.app _)
      simp only [lcE, ie, Pat.bind, aH, bA, aM, dX, dh, bB, lOp, ao, lC, lB, lT, iY, lOr, cD, lIf, bD, jJ, dO, ak, aa, aG, aU, lCB, lBM, lSl, aP, aW, gj, lIt, bV, dU, jN, gq, dW, cQ, dC, lLc, jH, dY, aA, bH, gZ, gS, sZ, sS, bJ, fB, iW, mY, dI, aV, qd, lTrue]
      refine ⟨trivial, ?_⟩
      simp only [if_true]
      refine ⟨a, ta, 1, 9, rfl, ha _ (aD.app _), ?_⟩
      simp only [aV, qd, List.length_nil, List.nil_append]
      refine ⟨by decide, trivial, ?_⟩
      refine ⟨b, tb, 1, 9, rfl, hb _ (aD.app _), ?_⟩
      simp only [aV, qd, List.length_cons, List.length_nil]
      refine ⟨by decide, trivial, ?_⟩
      simp only [allE, quE, aV]
      refine ⟨[jQ a 1 9, jQ b 1 9], rfl, ?_⟩
      simpa [areC] using fin
    · rw [decide_eq_false (by omega)]
      simp only [Bool.xor_false, if_true]
      have e : areC (.tup xs) = false := by
        match xs, hl with
        | [], _ => rfl
        | [_], _ => rfl
        | [_, _], h => exact absurd rfl h
        | _ :: _ :: _ :: _, _ => rfl
      rw [← e]
      exact q _ .refl
  · have e : isiB t "tuple" = false := by
      cases v <;> simp [tyE] at ht <;> try (subst ht; rfl)
      · exact absurd ⟨_, rfl⟩ hv
      · exact absurd rfl (nk _)
      · split at ht <;> simp at ht <;> subst ht <;> rfl
    rw [e]
    simp only [Bool.not_false, if_true]
    have e2 : areC v = false := by
      cases v <;> first | rfl | exact absurd ⟨_, rfl⟩ hv
    rw [← e2]
    exact q _ .refl
def TabRg (l : Tab) : Prop := ∀ q ∈ l, (0 ≤ q.1 ∧ q.1 ≤ 1000000000) ∧ (1 ≤ q.2.1 ∧ q.2.1 ≤ 9) ∧ (1 ≤ q.2.2 ∧ q.2.2 ≤ 9)
def jc (ad : Ad) : LSp := fun evs h Q => ∃ r l, evs = [.ref r] ∧ h[r]? = some (.dic (gH l)) ∧ TabRg l ∧ l.length ≤ 1000 ∧ ∀ h', aD no1 h h' → Q (.bl true) h'
abbrev N_is_price_table : List Str := ["thing", "letter", "costs"]
def jA (ad : Ad) : LS :=
    aH (bB (cD (lT (lCB jM (aa (ao 0) (aa (lC (.ty "dict")) (ak))))))
      (aM (lC (.bl false)))
      (aW)) <|
    aM (lCB allE (aa (lLockE (lLc (lItems (ao 0)) (.tp [.nm 1, .nm 2]) (mY) (bD (aA (jC ad) (aa (ao 1) (ak))) (aA (nW ad) (aa (ao 2) (ak)))) [1, 2])) (ak)))
theorem len_is_price_table (ad : Ad) (evs : List EV) (h : EH) (Q : EK) (q : jc ad evs h Q) : evs.length = ["thing"].length := by
  obtain ⟨_, _, rfl, _⟩ := q; rfl
theorem pure_is_price_table (ad : Ad) (evs : List EV) (h : EH) (Q : EK) (q : jc ad evs h Q) : jA ad (aO Q) (bF N_is_price_table evs) h := by
  obtain ⟨r, l, rfl, e, rg, ll, q⟩ := q
  show jA ad (aO Q) [some (.ref r), none, none] h
  simp only [jA, aH, bA, aM, dX, dh, bB, lOp, ao, lC, lB, lT, iY, lOr, cD, lIf, bD, jJ, dO, ak, aa, aG, aU, lCB, lBM, lSl, aP, aW, gj, lIt, bV, dU, jN, gq, dW, cQ, dC, lLc, jH, dY, aA, bH, gZ, gS, sZ, sS, bJ, fB, iW, lT, jM, tyE, e]
  refine ⟨by simp, ?_⟩
  simp only [gW, show isiB "dict" "dict" = true from rfl, Bool.not_true, Bool.false_eq_true, if_false, lLockE]
  refine ⟨r, _, e, fun od l0 => ?_⟩
  have hr := gK e
  simp only [aH, bA, aM, dX, dh, bB, lOp, ao, lC, lB, lT, iY, lOr, cD, lIf, bD, jJ, dO, ak, aa, aG, aU, lCB, lBM, lSl, aP, aW, gj, lIt, bV, dU, jN, gq, dW, cQ, dC, lLc, jH, dY, aA, bH, gZ, gS, sZ, sS, bJ, fB, iW, lItems, set_at e]
  have d0 := set_at (o := EO.dlk od l0 (gH l)) e
  have k0 : ∀ h', aD no1 (h.set r (.dlk od l0 (gH l))) h' → aD no1 h (h'.set r (.dic (gH l))) := by
    intro h' k
    refine ⟨by simpa using k.1, fun x o hx _ => ?_⟩
    by_cases ex : x = r
    · subst ex
      rw [e] at hx
      cases hx
      have := k.at d0
      exact set_at this
    · rw [List.getElem?_set_ne (fun z => ex z.symm)]
      exact k.at (oh hx ex)
  generalize hh0 : h.set r (.dlk od l0 (gH l)) = h0 at d0 k0
  refine lc_ind (fun left acc h' => ∃ rest, left = (gH rest).map (fun p => EV.tup [p.1, p.2]) ∧ TabRg rest ∧ (∃ n, acc = (List.replicate n true).map EV.bl ∧ n + rest.length = l.length) ∧ aD no1 h0 h') ?_ ?_ _ [] _ aV ⟨l, rfl, rg, ⟨0, rfl, by simp⟩, aD.app _⟩
  · rintro acc h4 ⟨rest, el, rg', ⟨n, rfl, hn⟩, k⟩ e4
    have hne : h0.length ≠ r := by rw [← hh0]; simp; omega
    have := k.at d0
    refine ⟨this, this, ?_⟩
    simp only [allE, quE]
    rw [oh e4 hne]
    exact ⟨_, rfl, by simpa using q _ (k0 _ k)⟩
  · rintro x left acc h4 ky kn ⟨rest, el, rg', ⟨n, rfl, hn⟩, k⟩ e4 hky _
    obtain ⟨c, rest, rfl⟩ : ∃ c r, rest = c :: r := by
      cases rest with
      | nil => simp [gH] at el
      | cons c r => exact ⟨c, r, rfl⟩
    simp only [gH, List.map_cons, List.cons.injEq] at el
    obtain ⟨rfl, rfl⟩ := el
    obtain ⟨g1, g2, g3⟩ := rg' c (by simp)
    refine ⟨k.at d0, ?_⟩
    simp only [ie, Pat.bind, Pat.binds, aH, bA, aM, dX, dh, bB, lOp, ao, lC, lB, lT, iY, lOr, cD, lIf, bD, jJ, dO, ak, aa, aG, aU, lCB, lBM, lSl, aP, aW, gj, lIt, bV, dU, jN, gq, dW, cQ, dC, lLc, jH, dY, aA, bH, gZ, gS, sZ, sS, bJ, fB, iW, mY, if_true]
    refine ⟨_, "int", rfl, rfl, ?_⟩
    rw [show jQ (.int c.1) 0 1000000000 = true by simp [jQ, g1]]
    simp only [if_true]
    refine ⟨_, "tuple", rfl, rfl, (fun xs z => EV.noConfusion z), fun xs ex hl x hx => ?_, fun h5 k5 => ?_⟩
    · unfold pairE at ex
      cases ex
      simp at hx
      rcases hx with rfl | rfl <;> exact ⟨"int", fun _ _ => rfl⟩
    · rw [show areC (pairE c.2) = true by simp [areC, pairE, jQ, g2, g3]]
      simp only [List.length_cons] at hn
      have l4 := gK e4
      refine hky _ _ (k5.at e4) (by simp [aN]; omega) ⟨rest, rfl, fun q hq => rg' q (by simp [hq]), ⟨n + 1, by rw [List.replicate_succ']; simp, by omega⟩, (k.trans k5).fresh (Nat.le_refl _)⟩
def prTab (t : Tab) : Tab := (t.mergeSort fun a b => decide (a.1 ≤ b.1)).filter fun q => decide (q.2 ≠ (1, 1))
theorem lookup_mem_nd {t : Tab} {x : Int} {c : Int × Int} (nd : (t.map (·.1)).Nodup) : t.lookup x = some c ↔ (x, c) ∈ t := by
  induction t with
  | nil => simp
  | cons q t ih =>
    obtain ⟨k, d⟩ := q
    simp only [List.map_cons, List.nodup_cons] at nd
    rw [List.lookup_cons]
    by_cases e : x = k
    · subst e
      simp only [beq_self_eq_true, List.mem_cons, Prod.mk.injEq, true_and, Option.some.injEq]
      constructor
      · rintro rfl; exact .inl rfl
      · rintro (rfl | z)
        · rfl
        · exact absurd (List.mem_map.mpr ⟨_, z, rfl⟩) nd.1
    · have e2 : (x == k) = false := by simpa using e
      rw [e2]
      simp only [ih nd.2, List.mem_cons, Prod.mk.injEq, e, false_and, false_or]
theorem prTab_ok {t : Tab} (ok : TabOk t) : TabOk (prTab t) := by
  have p := List.mergeSort_perm t fun a b => decide (a.1 ≤ b.1)
  refine ⟨?_, fun q hq => ok.rg q (p.mem_iff.mp (List.mem_filter.mp hq |>.1))⟩
  refine List.Nodup.sublist (List.Sublist.map _ List.filter_sublist) ?_
  exact ((p.map (·.1)).nodup_iff).mpr ok.nd
theorem dc_tab {g : EH → Prop} {p : Pat} {tt : LTt} {tk tv : LT} {env : En} {P : EK} {h : EH} (f : EV → Option (Int × (Int × Int))) (xs : List EV) (hl : xs.length ≤ sizeLine) (hg : ∀ acc, g (h ++ [.dic acc])) (nd : ((xs.filterMap f).map (·.1)).Nodup)
    (step : ∀ x ∈ xs, ∀ acc (ky : EV → EV → EH → Prop) (kn : EH → Prop), (∀ q, f x = some q → ky (.int q.1) (pairE q.2) (h ++ [.dic acc])) → (f x = none → kn (h ++ [.dic acc])) →
      ie (h ++ [.dic acc]) p x env fun env2 => tt env2 (h ++ [.dic acc]) fun b h3 => if b = true then tk env2 h3 fun y h4 => tv env2 h4 fun z h5 => ky y z h5 else kn h3)
    (fin : P (.ref h.length) (h ++ [.dic (gH (xs.filterMap f))])) : dcE g p tt tk tv h.length env P xs (h ++ [.dic []]) := by
  have key : ∀ ys (acc : Tab), (∀ x ∈ ys, x ∈ xs) → acc.length + ys.length ≤ xs.length → acc ++ ys.filterMap f = xs.filterMap f → dcE g p tt tk tv h.length env P ys (h ++ [.dic (gH acc)]) := by
    intro ys
    induction ys with
    | nil =>
      intro acc _ _ e
      rw [dcE]
      rw [List.filterMap_nil, List.append_nil] at e
      exact ⟨hg _, by rw [e]; exact fin⟩
    | cons x ys ih =>
      intro acc hm hz e
      rw [dcE]
      simp only [List.length_cons] at hz
      refine ⟨hg _, step x (hm x (by simp)) _ _ _ (fun q hq => ?_) fun hq => ?_⟩
      · simp only [aV, qd]
        refine ⟨trivial, by simp [gH]; omega, ?_⟩
        rw [List.filterMap_cons, hq] at e
        have hk : q.1 ∉ acc.map (·.1) := by
          rw [← e] at nd
          simp only [List.map_append, List.map_cons] at nd
          rw [List.nodup_append] at nd
          intro z
          exact nd.2.2 _ z q.1 (by simp) rfl
        rw [tab_put hk]
        exact ih _ (fun z hz' => hm z (List.mem_cons_of_mem _ hz')) (by simp; omega) (by simpa using e)
      · refine ih _ (fun z hz' => hm z (List.mem_cons_of_mem _ hz')) (by omega) ?_
        rw [List.filterMap_cons, hq] at e
        exact e
  exact key xs [] (fun _ h => h) (by simp) (by simp)
theorem eqE_pairK {n : Bool} {a b c d : Int} {h : EH} {P : EK} (p : P (.bl (n ^^ decide ((a, b) = (c, d)))) h) : eqE n (.tup [.int a, .int b]) (.ktup [.int c, .int d]) h P := by
  unfold eqE
  refine ⟨.tuple [.int a, .int b], .tuple [.int c, .int d], .tup (.cons (.int _) (.cons (.int _) .nil)), .ktup (.cons (.int _) (.cons (.int _) .nil)), ?_⟩
  have e : PyData.eqv (.tuple [.int a, .int b]) (.tuple [.int c, .int d]) = decide ((a, b) = (c, d)) := by
    simp only [PyData.eqv, PyData.eqvAll]
    by_cases h1 : a = c <;> by_cases h2 : b = d <;> simp [h1, h2]
  rw [e]
  exact p
def bu (ad : Ad) : LSp := fun evs h Q => ∃ (p r : Nat) (t : Tab), evs = [.ref p, .ref r] ∧ h[p]? = some (.slo ad.a_Prices []) ∧ h[r]? = some (.dic (gH t)) ∧ TabOk t ∧ t.length < 64 ∧
  ∀ h', aD (is1 p) h h' → PrAt ad h' p (prTab t) → Q .non h'
abbrev N_Prices___init__ : List Str := ["self", "table", "letter"]
def iZ (ad : Ad) : LS :=
    aH (bB (cD (lT (aA (jc ad) (aa (ao 1) (ak)))))
      (lNever)
      (aW)) <|
    lSetAt [(ad.a_Prices, 0)] (ao 0) (lDc (lIt (lCB sortE (aa (ao 1) (ak)))) (.nm 2) (lB (lOp (eqE true) (lOp ixA (ao 1) (ao 2)) (lC (.ktup [.int 1, .int 1])))) (ao 2) (lOp ixA (ao 1) (ao 2)) [2])
theorem len_Prices___init__ (ad : Ad) (evs : List EV) (h : EH) (Q : EK) (q : bu ad evs h Q) : evs.length = ["self", "table"].length := by
  obtain ⟨_, _, _, rfl, _⟩ := q; rfl
theorem pure_Prices___init__ (ad : Ad) (evs : List EV) (h : EH) (Q : EK) (q : bu ad evs h Q) : iZ ad (aO Q) (bF N_Prices___init__ evs) h := by
  obtain ⟨p, r, t, rfl, ep, er, ok, tl, q⟩ := q
  show iZ ad (aO Q) [some (.ref p), some (.ref r), none] h
  simp only [iZ, aH, bA, aM, dX, dh, bB, lOp, ao, lC, lB, lT, iY, lOr, cD, lIf, bD, jJ, dO, ak, aa, aG, aU, lCB, lBM, lSl, aP, aW, gj, lIt, bV, dU, jN, gq, dW, cQ, dC, lLc, jH, dY, aA, bH, gZ, gS, sZ, sS, bJ, fB, iW, lT]
  refine ⟨r, t, rfl, er, ok.rg, by omega, fun h1 k1 => ?_⟩
  simp only [gW, Bool.not_true, Bool.false_eq_true, if_false, lSetAt, lDc, aH, bA, aM, dX, dh, bB, lOp, ao, lC, lB, lT, iY, lOr, cD, lIf, bD, jJ, dO, ak, aa, aG, aU, lCB, lBM, lSl, aP, aW, gj, lIt, bV, dU, jN, gq, dW, cQ, dC, lLc, jH, dY, aA, bH, gZ, gS, sZ, sS, bJ, fB, iW, sortE, k1.at er]
  refine ⟨t.map (·.1), by simp [gH], by simpa using tl, fun ys py sy => ?_⟩
  have pm := List.mergeSort_perm t fun a b => decide (a.1 ≤ b.1)
  have sm : (t.mergeSort fun a b => decide (a.1 ≤ b.1)).Pairwise fun a b => a.1 ≤ b.1 := by
    have := List.pairwise_mergeSort (le := fun (a b : Int × (Int × Int)) => decide (a.1 ≤ b.1)) (fun a b c => by simp only [decide_eq_true_eq]; omega) (fun a b => by simp only [Bool.or_eq_true, decide_eq_true_eq]; omega) t
    exact this.imp fun h => by simpa using h
  have ey : ys = (t.mergeSort fun a b => decide (a.1 ≤ b.1)).map (·.1) := by
    refine List.Perm.eq_of_pairwise (le := (· ≤ ·)) (fun a b _ _ h1 h2 => Int.le_antisymm h1 h2) sy ?_ (py.trans (pm.map (·.1)).symm)
    rw [List.pairwise_map]
    exact sm
  have k2 : aD no1 h (h1 ++ [.lst (ys.map EV.int)]) := k1.trans (aD.app _)
  have e1 := k2.at er
  simp only [aV]
  let f : EV → Option (Int × (Int × Int)) := fun v => match v with
    | .int x => if cost t x ≠ (1, 1) then some (x, cost t x) else none
    | _ => none
  have ef : (ys.map EV.int).filterMap f = prTab t := by
    rw [ey]
    have key : ∀ l : Tab, (∀ q ∈ l, cost t q.1 = q.2) → ((l.map (·.1)).map EV.int).filterMap f = l.filter fun q => decide (q.2 ≠ (1, 1)) := by
      intro l
      induction l with
      | nil => intro _; rfl
      | cons q l ih =>
        intro hq
        have h1 := hq q (by simp)
        rw [List.map_cons, List.map_cons, List.filterMap_cons, List.filter_cons, ih fun z hz => hq z (by simp [hz])]
        simp only [f, h1]
        by_cases h2 : q.2 = (1, 1)
        · simp [h2]
        · simp [h2]
    refine key _ fun q hq => ?_
    unfold cost
    rw [(lookup_mem_nd ok.nd).mpr (show (q.1, q.2) ∈ t from pm.mem_iff.mp hq)]
    rfl
  refine dc_tab f _ (by rw [List.length_map, ey, List.length_map, pm.length_eq, aN]; omega) (fun acc => dG aV _) ?_ (fun x hx acc ky kn hy hn => ?_) ?_
  · rw [ef]; exact (prTab_ok ok).nd
  · obtain ⟨x, hx', rfl⟩ := List.mem_map.mp hx
    simp only [ie, Pat.bind, aH, bA, aM, dX, dh, bB, lOp, ao, lC, lB, lT, iY, lOr, cD, lIf, bD, jJ, dO, ak, aa, aG, aU, lCB, lBM, lSl, aP, aW, gj, lIt, bV, dU, jN, gq, dW, cQ, dC, lLc, jH, dY, aA, bH, gZ, gS, sZ, sS, bJ, fB, iW]
    have hx2 : x ∈ t.map (·.1) := py.mem_iff.mp hx'
    have eg : dGet (gH t) (.int x) = some (pairE (cost t x)) := by
      obtain ⟨q, hq, rfl⟩ := List.mem_map.mp hx2
      have h1 : t.lookup q.1 = some q.2 := (lookup_mem_nd ok.nd).mpr hq
      have g := tab_get t q.1
      cases e2 : dGet (gH t) (.int q.1) with
      | some v => rw [e2] at g; simpa using g
      | none =>
        exfalso
        clear g hx hx' hy hn ef sm ey
        have key : ∀ l : Tab, q ∈ l → dGet (gH l) (.int q.1) ≠ none := by
          intro l
          induction l with
          | nil => intro z; simp at z
          | cons a l ih =>
            intro z
            unfold gH at ih ⊢
            rw [List.map_cons, dGet]
            by_cases ea : a.1 = q.1
            · rw [if_pos (by simp [kEq, ea])]; simp
            · rw [if_neg (by simp [kEq, ea])]
              rcases List.mem_cons.mp z with y | y
              · exact absurd (by rw [y]) ea
              · exact ih y
        exact key t hq e2
    have e3 := dG (dG e1 [.dic acc]) []
    refine ia_d (dG e1 _) trivial eg ?_
    unfold pairE
    refine eqE_pairK ?_
    dsimp only
    by_cases hc : cost t x = (1, 1)
    · rw [hc]
      exact hn (by simp [f, hc])
    · have hc' : ¬((cost t x).1, (cost t x).2) = (1, 1) := hc
      rw [decide_eq_false hc']
      simp only [Bool.xor_false, if_true]
      refine ia_d (dG e1 _) trivial eg ?_
      exact hy (x, cost t x) (by simp [f, hc])
  · rw [ef]
    have kf : aD no1 h (h1 ++ [.lst (ys.map EV.int)] ++ [.dic (gH (prTab t))]) := k2.trans (aD.app _)
    have ep2 := kf.at ep
    simp only [ep2, List.lookup_cons, beq_self_eq_true]
    refine q _ ((kf.all (c := is1 p)).trans (aD.set rfl)) ⟨(h1 ++ [EO.lst (ys.map EV.int)]).length, ?_, ?_⟩
    · rw [set_at ep2]; rfl
    · refine oh aV ?_
      have := gK (k2.at ep)
      omega
abbrev Tbl := Nat → Nat → Option Int
def upd (R : Tbl) (i j : Nat) (v : Option Int) : Tbl := fun a b => if a = i ∧ b = j then v else R a b
def Wd.g (w : Wd) : GridOf where
  same i j := decide (w.l.getD i 0 = w.r.getD j 0)
  drop i := (cost w.c (w.l.getD i 0)).1
  put j := (cost w.c (w.r.getD j 0)).2
  lag := w.p.ok
abbrev Wd.n (w : Wd) : Nat := w.l.length
abbrev Wd.m (w : Wd) : Nat := w.r.length
def PromNN : Prom → Prop
  | .lag g => 0 ≤ g
  | _ => True
def GridOf.rest (g : GridOf) (n m i j : Nat) : Option Int :=
  if g.lag i j = true then
    omin (if i = n ∧ j = m then some 0 else none)
      (omin (if _h : i < n ∧ j < m then (if g.same i j = true then g.rest n m (i + 1) (j + 1) else none) else none)
        (omin (if _h : i < n then oadd (g.rest n m (i + 1) j) (g.drop i) else none) (if _h : j < m then oadd (g.rest n m i (j + 1)) (g.put j) else none)))
  else none
  termination_by (n - i) + (m - j)
abbrev Wd.rest (w : Wd) : Tbl := w.g.rest w.n w.m
def isSt (c : Nat) : Bool := decide (c = 107) || decide (c = 100) || decide (c = 112)
def isScr : EV → Bool
  | .str s => s.all isSt
  | _ => false
def nU (ad : Ad) : LSp := fun evs h Q => ∃ v, evs = [v] ∧ (tyE v h).isSome = true ∧ (∀ s, v = .str s → s.length ≤ 100000) ∧ ∀ h', aD no1 h h' → Q (.bl (isScr v)) h'
abbrev N_is_script : List Str := ["thing", "sign"]
def pJ (ad : Ad) : LS :=
    aM (bD (lCB jM (aa (ao 0) (aa (lC (.ty "str")) (ak)))) (lCB allE (aa (lLc (lIt (ao 0)) (.nm 1) (mY) (lOp (inA false) (ao 1) (lC (.str [107, 100, 112]))) [1]) (ak))))
theorem len_is_script (ad : Ad) (evs : List EV) (h : EH) (Q : EK) (q : nU ad evs h Q) : evs.length = ["thing"].length := by
  obtain ⟨_, rfl, _⟩ := q; rfl
theorem pure_is_script (ad : Ad) (evs : List EV) (h : EH) (Q : EK) (q : nU ad evs h Q) : pJ ad (aO Q) (bF N_is_script evs) h := by
  obtain ⟨v, rfl, ht, hl, q⟩ := q
  show pJ ad (aO Q) [some v, none] h
  obtain ⟨t, ht⟩ := Option.isSome_iff_exists.mp ht
  simp only [pJ, aH, bA, aM, dX, dh, bB, lOp, ao, lC, lB, lT, iY, lOr, cD, lIf, bD, jJ, dO, ak, aa, aG, aU, lCB, lBM, lSl, aP, aW, gj, lIt, bV, dU, jN, gq, dW, cQ, dC, lLc, jH, dY, aA, bH, gZ, gS, sZ, sS, bJ, fB, iW, jM, ht]
  refine ⟨by simp, ?_⟩
  by_cases hv : ∃ s, v = .str s
  · obtain ⟨s, rfl⟩ := hv
    simp [tyE] at ht
    subst ht
    simp only [show isiB "str" "str" = true from rfl, if_true]
    refine lc_map (fun v => match v with
      | .str [c] => EV.bl (isSt c)
      | _ => .non) _ (by rw [List.length_map, aN]; have := hl s rfl; omega) (fun acc => trivial) (fun x hx acc ky hy => ?_) ?_
    · obtain ⟨c, _, rfl⟩ := List.mem_map.mp hx
      simp only [ie, Pat.bind, aH, bA, aM, dX, dh, bB, lOp, ao, lC, lB, lT, iY, lOr, cD, lIf, bD, jJ, dO, ak, aa, aG, aU, lCB, lBM, lSl, aP, aW, gj, lIt, bV, dU, jN, gq, dW, cQ, dC, lLc, jH, dY, aA, bH, gZ, gS, sZ, sS, bJ, fB, iW, inA]
      have : (false ^^ decide (c ∈ [107, 100, 112])) = isSt c := by simp [isSt, Bool.decide_or, Bool.or_assoc]
      rw [this]
      exact hy
    · simp only [allE, quE, aV]
      refine ⟨s.map isSt, by rw [List.map_map, List.map_map]; rfl, ?_⟩
      rw [List.all_map]
      exact q _ (aD.app _)
  · have e1 : isiB t "str" = false := by
      cases v <;> simp [tyE] at ht <;> try (subst ht; rfl)
      · exact absurd ⟨_, rfl⟩ hv
      · split at ht <;> simp at ht <;> subst ht <;> rfl
    have e2 : isScr v = false := by
      cases v <;> first | rfl | exact absurd ⟨_, rfl⟩ hv
    rw [e1]
    simp only [Bool.false_eq_true, if_false]
    rw [← e2]
    exact q _ .refl
theorem alike_ok {ad : Ad} {v w : EV} {d : PyData} {n k : Nat} {h : EH} {Q : EK} (a : DS h n k v d) (b : DS h n k w d) (hn : n ≤ 60) (hk : k ≤ 2 ^ 20) (q : Q (.bl true) h) : cA ad [v, w] h Q := ⟨v, w, d, rfl, Dat.deep a.1 hn, Dat.deep b.1 hn, (a.fits hk).1, (a.fits hk).2, q⟩
def WorldAt (h : EH) (W : Nat) (v : EV) : Prop := ∃ (q : Nat) (l r : List Int) (t : Nat) (c : Tab) (p : Prom), v = .ref q ∧ W < q ∧ h[q]? = some (.lst [tx l, tx r, .ref t, p.e]) ∧ h[t]? = some (.dic (gH c)) ∧ TabOk c ∧ c.length ≤ 40 ∧ l.length ≤ 9 ∧ r.length ≤ 9 ∧ PromNN p
structure Pk (h0 : EH) (b W L : Nat) (ns : List Int) (h : EH) (ws : List EV) : Prop where
  k : aD (is1 b) h0 h
  B : bM h b
  w : h[W]? = some (.lst ws)
  a : ∀ v ∈ ws, WorldAt h W v
  l : h[L]? = some (.lst (ns.map EV.int))
theorem rangeL_nat (n : Nat) : j5 0 n = (List.range' 0 n).map fun (k : Nat) => EV.int k := by
  unfold j5
  rw [List.range_eq_range']
  refine List.map_congr_left fun k _ => ?_
  rw [Int.zero_add]
theorem loop_nat {g : EH → Prop} {p : Pat} {tb : LS} {D : LEnds} (n : Nat) (I : Nat → En → EH → Prop)
    (stop : ∀ env h, I n env h → g h ∧ D.nx env h)
    (turn : ∀ i env h (k : En → EH → Prop), i < n → I i env h → (∀ env' h', I (i + 1) env' h' → k env' h') → g h ∧ ie h p (.int (i : Nat)) env fun env2 => tb { D with nx := k, ct := k, bk := D.nx } env2 h) :
    ∀ env h, I 0 env h → loopE g p tb D (j5 0 n) env h := by
  intro env h i0
  rw [rangeL_nat]
  refine loop_ind (fun left env h => ∃ i : Nat, i ≤ n ∧ left = (List.range' i (n - i)).map (fun (k : Nat) => EV.int k) ∧ I i env h) ?_ ?_ _ _ _ ⟨0, Nat.zero_le _, rfl, i0⟩
  · rintro env h ⟨i, hi, el, z⟩
    have : i = n := by
      have := congrArg List.length el
      simp at this
      omega
    subst this
    exact stop env h z
  · rintro x left env h k ⟨i, hi, el, z⟩ hk
    have hi2 : i < n := by
      have := congrArg List.length el
      simp at this
      omega
    rw [show n - i = (n - i - 1) + 1 by omega, List.range'_succ, List.map_cons, List.cons.injEq] at el
    obtain ⟨rfl, rfl⟩ := el
    exact turn i env h k hi2 z fun env' h' z' => hk env' h' ⟨i + 1, hi2, by rw [show n - (i + 1) = n - i - 1 by omega], z'⟩
section
variable {w : Wd} {q : Prom} (hq : ∀ i j, q.ok i j = w.p.ok i j)
include hq
end
section
variable {w : Wd} {c : Tab} (hc : ∀ x, cost c x = cost w.c x)
include hc
end
end Y
namespace Y
open PySem PySem.Spec PyProof.Rows L2
mutual
inductive DatB (b : Nat) (h : EH) : Nat → EV → PyData → Prop
  | non {n : Nat} : DatB b h n .non .none
  | bl {n : Nat} (x : Bool) : DatB b h n (.bl x) (.bool x)
  | int {n : Nat} (i : Int) : DatB b h n (.int i) (.int i)
  | str {n : Nat} (s : List Nat) : DatB b h n (.str s) (.str (S s))
  | tup {n : Nat} {xs : List EV} {ds : List PyData} : DatsB b h n xs ds → DatB b h (n + 1) (.tup xs) (.tuple ds)
  | lst {n : Nat} {r : Nat} {xs : List EV} {ds : List PyData} : b < r → h[r]? = some (.lst xs) → DatsB b h n xs ds → DatB b h (n + 1) (.ref r) (.list ds)
inductive DatsB (b : Nat) (h : EH) : Nat → List EV → List PyData → Prop
  | nil {n : Nat} : DatsB b h n [] []
  | cons {n : Nat} {x : EV} {xs : List EV} {d : PyData} {ds : List PyData} : DatB b h n x d → DatsB b h n xs ds → DatsB b h n (x :: xs) (d :: ds)
end
section
variable {b : Nat} {h h' : EH} {n k j : Nat}
end
end Y
namespace Y
open PySem PySem.Spec PyProof.Rows L2
section
variable {ad : Ad} {h0 h h' : EH} {b : Nat} {w : Wd} {X : Bool → Bool} {c : Tab} {s R C : Nat} {T1 T2 : Bool → List Int} {O : Bool → Bool} {hd pr : Nat}
end
section
variable {ad : Ad} {h0 h h' : EH} {b : Nat} {w : Wd} {X : Bool → Bool} {c : Tab} {s : Nat} {T1 T2 : Bool → List Int} {O : Bool → Bool} {hd pr : Nat}
end
inductive Un where
  | k | d | p (x : Int)
theorem lc_keep {α : Type} (f : α → EV) (y : α → Option EV) {g : EH → Prop} {p : Pat} {tt : LTt} {te : LT} {env : En} {P : EK} {h : EH} (xs : List α) (hl : xs.length ≤ 1000000) (hg : ∀ h', aD no1 h h' → g h')
    (step : ∀ x ∈ xs, ∀ h' (ky : EK) (kn : EH → Prop), aD no1 h h' → (∀ v, y x = some v → ∀ h2, aD no1 h' h2 → ky v h2) → (y x = none → ∀ h2, aD no1 h' h2 → kn h2) → ie h' p (f x) env fun env2 => tt env2 h' fun b h3 => if b = true then te env2 h3 ky else kn h3)
    (fin : ∀ h', aD no1 h h' → h'[h.length]? = some (.lst (xs.filterMap y)) → P (.ref h.length) h') : lcE g p tt te h.length env P (xs.map f) (h ++ [.lst []]) := by
  refine lc_ind (fun left acc h' => ∃ a b, xs = a ++ b ∧ left = b.map f ∧ acc = a.filterMap y ∧ aD no1 h h') ?_ ?_ _ _ _ aV ⟨[], xs, rfl, rfl, rfl, aD.app _⟩
  · rintro acc h' ⟨a, b, e, el, rfl, k⟩ ea
    obtain rfl : b = [] := by simpa using el.symm
    rw [List.append_nil] at e
    subst e
    exact ⟨hg _ k, fin _ k ea⟩
  · rintro x left acc h' ky kn ⟨a, b, e, el, rfl, k⟩ ea hy hn
    obtain ⟨z, b, rfl⟩ : ∃ c r, b = c :: r := by
      cases b with
      | nil => simp at el
      | cons c r => exact ⟨c, r, rfl⟩
    rw [List.map_cons, List.cons.injEq] at el
    obtain ⟨rfl, rfl⟩ := el
    refine ⟨hg _ k, step z (by rw [e]; simp) h' ky kn k (fun v hv h2 k2 => ?_) fun hv h2 k2 => ?_⟩
    · refine hy v h2 (k2.at ea) ?_ ⟨a ++ [z], b, by rw [e]; simp, rfl, by simp [hv], (k.trans k2).fresh (Nat.le_refl _)⟩
      have := List.length_filterMap_le y a
      have hx : xs.length = a.length + (b.length + 1) := by rw [e]; simp
      have sz : sizeLine = 16777216 := by decide
      omega
    · exact hn h2 (k2.at ea) ⟨a ++ [z], b, by rw [e]; simp, rfl, by simp [hv], k.trans k2⟩
def isD : Un → Bool
  | .d => true
  | _ => false
def mk (us : List Un) : Nat := (us.filter fun u => !isD u).length
def ins1 (acc : List Int) (x : Int) : List Int := if x ∈ acc then acc else acc ++ [x]
def nub (ls : List Int) : List Int := ls.foldl ins1 []
def uni (p : Int × Int) (ks : List Int) : Tab := ks.map fun x => (x, p)
structure PrOk (p : Int × Int) : Prop where
  a1 : 1 ≤ p.1
  a9 : p.1 ≤ 9
  b1 : 1 ≤ p.2
  b9 : p.2 ≤ 9
def uniW (p : Int × Int) (g : Prom) (l r : List Int) : Wd := ⟨l, r, prTab (uni p (nub (l ++ r))), g⟩
theorem keep_new {h h1 h2 : EH} {r : Nat} (k0 : aD no1 h h1) (k : aD (is1 r) h1 h2) (hr : h.length ≤ r) : aD no1 h h2 := by
  refine ⟨Nat.le_trans k0.1 k.1, fun i o ho _ => k.2 i o (k0.at ho) ?_⟩
  have := gK ho
  simp [is1]
  omega
def restVR (p : Int × Int) (l r : List Int) (i j : Nat) : Int := ((uniW p .none l r).rest i j).getD 0
def v1 (n m i j : Nat) : List Int := if decide (i = n) && decide (j = m) then [0] else []
def v2 (p : Int × Int) (l r : List Int) (i j : Nat) : List Int := if (decide (i < l.length) && (decide (j < r.length) && decide (l.getD i 0 = r.getD j 0))) = true then [restVR p l r (i + 1) (j + 1)] else []
theorem one_new {ad : Ad} {h : EH} {b : Nat} {xs : List EV} {P : EK} (B : bM h b) (ne : xs ≠ []) (hl : xs.length ≤ 1000) (p : ∀ x h', x ∈ xs → aD (is1 b) h h' → bM h' b → P x h') : aY ad [.ref b, .ref h.length] (h ++ [.lst xs]) P :=
  ⟨b, h.length, xs, rfl, aV, ne, by rw [aN]; omega, by have := B.lt; omega, B.keep (aD.app _), fun x h' hx k B' => p x h' hx ((aD.app _).trans k) B'⟩
theorem take_n {ad : Ad} {h : EH} {b : Nat} (n : Nat) {m : Int} {P : EK} (B : bM h b) (e : m = (n : Nat)) (h0 : 0 < n) (h1 : n < 1000000) (p : ∀ (d : Nat) h', d < n → aD (is1 b) h h' → bM h' b → P (.int d) h') : bf ad [.ref b, .int m] h P := by
  refine ⟨b, m, rfl, by omega, by omega, B, fun d h' d0 d1 k B' => ?_⟩
  obtain ⟨d, rfl⟩ := Int.eq_ofNat_of_zero_le d0
  exact p d h' (by omega) k B'
def lF (ad : Ad) : LSp := fun evs h Q => ∃ b, evs = [.ref b] ∧ bM h b ∧ ∀ (p : Int × Int) h', PrOk p → p.1 ≤ 3 → p.2 ≤ 3 → aD (is1 b) h h' → bM h' b → Q (pairE p) h'
abbrev N__law_pair : List Str := ["_law_bag_here"]
def pY (ad : Ad) : LS :=
    aM (aG (aa (lOp bG (lC (.int 1)) (aA (aY ad) (aa (ao 0) (aa (aU (aa (lC (.int 0)) (aa (lC (.int 0)) (aa (lC (.int 1)) (aa (lC (.int 2)) (ak)))))) (ak))))) (aa (lOp bG (lC (.int 1)) (aA (aY ad) (aa (ao 0) (aa (aU (aa (lC (.int 0)) (aa (lC (.int 0)) (aa (lC (.int 1)) (aa (lC (.int 2)) (ak)))))) (ak))))) (ak))))
theorem len__law_pair (ad : Ad) (evs : List EV) (h : EH) (Q : EK) (q : lF ad evs h Q) : evs.length = ["_law_bag_here"].length := by
  obtain ⟨_, rfl, _⟩ := q; rfl
theorem pure__law_pair (ad : Ad) (evs : List EV) (h : EH) (Q : EK) (q : lF ad evs h Q) : pY ad (aO Q) (bF N__law_pair evs) h := by
  obtain ⟨b, rfl, B, q⟩ := q
  show pY ad (aO Q) [some (.ref b)] h
  unfold pY
  simp only [bA, aM, dX, dh, lOp, ao, lC, lB, lT, iY, lOr, cD, lIf, bD, jJ, dO, ak, aa, aG, aU, lCB, lBM, lSl, aP, aW, lIt, bV, dU, jN, gq, dW, cQ, dC, lLc, jH, dY, aA, bH, gZ, gS, sZ, sS, bJ, fB, iW]
  have i012 : ∀ {x : EV}, x ∈ [EV.int 0, .int 0, .int 1, .int 2] → ∃ n : Int, x = .int n ∧ 0 ≤ n ∧ n ≤ 2 := fun {x} hx => by
    simp only [List.mem_cons, List.not_mem_nil, or_false] at hx
    rcases hx with rfl | rfl | rfl | rfl <;> exact ⟨_, rfl, by decide, by decide⟩
  refine ⟨by simp [aN], one_new B (by simp) (by simp) fun x h1 hx k1 B1 => ?_⟩
  obtain ⟨n, rfl, n0, n2⟩ := i012 hx
  simp only [bG, fB]
  refine ⟨by simp [aN], one_new B1 (by simp) (by simp) fun x h2 hx2 k2 B2 => ?_⟩
  obtain ⟨m, rfl, m0, m2⟩ := i012 hx2
  simp only [bG, fB]
  refine ⟨by simp [aN], ?_⟩
  exact q (1 + n, 1 + m) h2 ⟨by simp; omega, by simp; omega, by simp; omega, by simp; omega⟩ (by simp; omega) (by simp; omega) (k1.trans k2) B2
theorem lc_bag {V : EV → Prop} {b : Nat} {g : EH → Prop} {p : Pat} {te : LT} {env : En} {P : EK} {h : EH} (xs : List EV) (B : bM h b) (hl : xs.length ≤ 1000000) (hg : ∀ h', aD (is1 b) h h' → g h')
    (step : ∀ x ∈ xs, ∀ h' (ky : EK), aD (is1 b) h h' → bM h' b → (∀ v h2, V v → aD (is1 b) h' h2 → bM h2 b → ky v h2) → ie h' p x env fun env2 => te env2 h' ky)
    (fin : ∀ (vs : List EV) h', vs.length = xs.length → (∀ v ∈ vs, V v) → aD (is1 b) h h' → bM h' b → h'[h.length]? = some (.lst vs) → P (.ref h.length) h') : lcE g p mY te h.length env P xs (h ++ [.lst []]) := by
  have hb := B.lt
  refine lc_ind (fun left acc h' => aD (is1 b) h h' ∧ bM h' b ∧ (∀ v ∈ acc, V v) ∧ acc.length + left.length = xs.length ∧ ∀ x ∈ left, x ∈ xs) ?stop ?turn _ [] _ aV ⟨aD.app _, B.keep (aD.app _), by simp, by simp, fun x hx => hx⟩
  case stop =>
    rintro acc h' ⟨k, B', hv, hn, _⟩ e
    exact ⟨hg _ k, fin acc h' (by simpa using hn) hv k B' e⟩
  case turn =>
    rintro x left acc h' ky kn ⟨k, B', hv, hn, hm⟩ e hky hkn
    simp only [List.length_cons] at hn
    refine ⟨hg _ k, ?_⟩
    have q := step x (hm x List.mem_cons_self) h' ky k B' fun v h2 v1 k2 B2 => hky v h2 (k2.other e (by omega)) (by rw [aN]; omega)
      ⟨(k.trans k2).fresh (Nat.le_refl _), B2.set hb, fun y hy => by
        rcases List.mem_append.mp hy with hy | hy
        · exact hv y hy
        · rw [List.mem_singleton.mp hy]; exact v1, by simp; omega, fun y hy => hm y (List.mem_cons_of_mem _ hy)⟩
    unfold ie at q ⊢
    split at q
    · simpa [mY] using q
    · exact q.elim
theorem cP {f : En → EH → Prop} {rt : EK} {c k : En → EH → Prop} {env : En} {h : EH} (p : f env h) : aW (LEnds.mk f rt c k) env h := p
def Kn (h : EH) (v : EV) : Prop := (∃ t, ∀ h', aD no1 h h' → tyE v h' = some t) ∧ ∀ xs, v ≠ .ktup xs
theorem Kn.keep {h h' : EH} {v : EV} (z : Kn h v) (k : aD no1 h h') : Kn h' v := ⟨let ⟨t, a⟩ := z.1; ⟨t, fun h2 k2 => a h2 (k.trans k2)⟩, z.2⟩
theorem Kn.ty {h : EH} {v : EV} (z : Kn h v) : ∃ t, tyE v h = some t := let ⟨t, a⟩ := z.1; ⟨t, a h .refl⟩
structure Kd (h : EH) (v : EV) : Prop where
  k : Kn h v
  s : ∀ xs, v = .tup xs → xs.length ≤ 1000 ∧ ∀ x ∈ xs, Kn h x ∧ ∀ ys, x = .tup ys → ys.length ≤ 1000 ∧ ∀ y ∈ ys, Kn h y
theorem Kd.keep {h h' : EH} {v : EV} (z : Kd h v) (k : aD no1 h h') : Kd h' v := ⟨z.k.keep k, fun xs e => ⟨(z.s xs e).1, fun x hx => ⟨((z.s xs e).2 x hx).1.keep k, fun ys e2 => ⟨(((z.s xs e).2 x hx).2 ys e2).1, fun y hy => ((((z.s xs e).2 x hx).2 ys e2).2 y hy).keep k⟩⟩⟩⟩
def letB (v : EV) : Bool := jQ v 0 1000000000
def textB : EV → Bool
  | .tup xs => xs.all letB
  | _ => false
def jk (ad : Ad) : LSp := fun evs h Q => ∃ v : EV, evs = [v] ∧ Kn h v ∧ (∀ xs, v = .tup xs → xs.length ≤ 1000 ∧ ∀ x ∈ xs, Kn h x) ∧ ∀ h', aD no1 h h' → Q (.bl (textB v)) h'
abbrev N_is_text_k94 : List Str := ["thing", "one"]
def mU (ad : Ad) : LS :=
    aM (bD (lCB jM (aa (ao 0) (aa (lC (.ty "tuple")) (ak)))) (lCB allE (aa (lLc (lIt (ao 0)) (.nm 1) (mY) (aA (jC ad) (aa (ao 1) (ak))) [1]) (ak))))
theorem len_is_text_k94 (ad : Ad) (evs : List EV) (h : EH) (Q : EK) (q : jk ad evs h Q) : evs.length = ["thing"].length := by
  obtain ⟨_, rfl, _⟩ := q; rfl
theorem all_b {bs : List Bool} {r : Nat} {h : EH} {P : EK} (e : h[r]? = some (.lst (bs.map EV.bl))) (p : P (.bl (bs.all id)) h) : allE [.ref r] h P := by
  simp only [allE, quE, e]
  exact ⟨bs, rfl, p⟩
theorem nQ {v : EV} {T : String} {h : EH} {P : EK} (z : ∃ t, tyE v h = some t) (hT : T = "int" ∨ T = "bool" ∨ T = "str" ∨ T = "tuple" ∨ T = "dict" ∨ T = "list") (p : ∀ t, tyE v h = some t → P (.bl (isiB t T)) h) : jM [v, .ty T] h P := by
  obtain ⟨t, e⟩ := z
  simp only [jM, e]
  exact ⟨hT, p t e⟩
theorem ty_tup {v : EV} {h : EH} {t : String} (e : tyE v h = some t) (nk : ∀ xs, v ≠ .ktup xs) : (isiB t "tuple" = true ∧ ∃ xs, v = .tup xs) ∨ (isiB t "tuple" = false ∧ ∀ xs, v ≠ .tup xs) := by
  unfold tyE at e
  split at e
  · cases e; exact .inr ⟨rfl, fun _ h => by cases h⟩
  · cases e; exact .inr ⟨rfl, fun _ h => by cases h⟩
  · cases e; exact .inr ⟨rfl, fun _ h => by cases h⟩
  · cases e; exact .inr ⟨rfl, fun _ h => by cases h⟩
  · split at e
    · cases e; exact .inr ⟨rfl, fun _ h => by cases h⟩
    · cases e; exact .inr ⟨rfl, fun _ h => by cases h⟩
    · cases e; exact .inr ⟨rfl, fun _ h => by cases h⟩
    · cases e
  · cases e; exact .inl ⟨rfl, _, rfl⟩
  · exact absurd rfl (nk _)
  · cases e
theorem ty_str {v : EV} {h : EH} {t : String} (e : tyE v h = some t) : (isiB t "str" = true ∧ ∃ s, v = .str s) ∨ (isiB t "str" = false ∧ ∀ s, v ≠ .str s) := by
  unfold tyE at e
  split at e
  · cases e; exact .inr ⟨rfl, fun _ h => by cases h⟩
  · cases e; exact .inr ⟨rfl, fun _ h => by cases h⟩
  · cases e; exact .inr ⟨rfl, fun _ h => by cases h⟩
  · cases e; exact .inl ⟨rfl, _, rfl⟩
  · split at e
    · cases e; exact .inr ⟨rfl, fun _ h => by cases h⟩
    · cases e; exact .inr ⟨rfl, fun _ h => by cases h⟩
    · cases e; exact .inr ⟨rfl, fun _ h => by cases h⟩
    · cases e
  · cases e; exact .inr ⟨rfl, fun _ h => by cases h⟩
  · cases e; exact .inr ⟨rfl, fun _ h => by cases h⟩
  · cases e
theorem fm_bl (f : EV → Bool) : ∀ xs : List EV, (xs.filterMap fun x => some (EV.bl (f x))) = (xs.map f).map EV.bl
  | [] => rfl
  | x :: xs => by rw [List.filterMap_cons]; exact congrArg (List.cons _) (fm_bl f xs)
theorem all_id (f : EV → Bool) (xs : List EV) : (xs.map f).all id = xs.all f := by simp [List.all_map, Function.comp_def]
theorem lc_keepI (y : EV → Option EV) {g : EH → Prop} {p : Pat} {tt : LTt} {te : LT} {env : En} {P : EK} {h : EH} (xs : List EV) (hl : xs.length ≤ 1000000) (hg : ∀ h', aD no1 h h' → g h')
    (step : ∀ x ∈ xs, ∀ h' (ky : EK) (kn : EH → Prop), aD no1 h h' → (∀ v, y x = some v → ∀ h2, aD no1 h' h2 → ky v h2) → (y x = none → ∀ h2, aD no1 h' h2 → kn h2) → ie h' p x env fun env2 => tt env2 h' fun b h3 => if b = true then te env2 h3 ky else kn h3)
    (fin : ∀ h', aD no1 h h' → h'[h.length]? = some (.lst (xs.filterMap y)) → P (.ref h.length) h') : lcE g p tt te h.length env P xs (h ++ [.lst []]) := by
  have := lc_keep (fun x => x) y (P := P) xs hl hg step fin
  rwa [List.map_id'] at this
theorem pure_is_text_k94 (ad : Ad) (evs : List EV) (h : EH) (Q : EK) (q : jk ad evs h Q) : mU ad (aO Q) (bF N_is_text_k94 evs) h := by
  obtain ⟨v, rfl, kn, hs, q⟩ := q
  show mU ad (aO Q) [some v, none] h
  unfold mU
  simp only [bA, aM, dX, dh, lOp, ao, lC, lB, lT, iY, lOr, cD, lIf, bD, jJ, dO, ak, aa, aG, aU, lCB, lBM, lSl, aP, aW, lIt, bV, dU, jN, gq, dW, cQ, dC, lLc, jH, dY, aA, bH, gZ, gS, sZ, sS, bJ, fB, iW]
  refine nQ kn.ty (by simp) fun t e => ?_
  rcases ty_tup e kn.2 with ⟨e1, xs, rfl⟩ | ⟨e1, nt⟩
  · rw [e1]
    simp only [gW, if_true]
    obtain ⟨hl, hx⟩ := hs xs rfl
    refine lc_keepI (fun x => some (.bl (letB x))) xs (by omega) (fun _ _ => trivial) (fun x hxm h' ky kn' k hy hn => ?_) fun h1 k1 e1 => ?_
    · refine iD ?_
      simp only [sZ, sS, bA, aM, dX, dh, lOp, ao, lC, lB, lT, iY, lOr, cD, lIf, bD, jJ, dO, ak, aa, aG, aU, lCB, lBM, lSl, aP, aW, lIt, bV, dU, jN, gq, dW, cQ, dC, lLc, jH, dY, aA, bH, gZ, gS, sZ, sS, bJ, fB, iW, bJ, mY, if_true, aA]
      obtain ⟨t', et⟩ := ((hx x hxm).keep k).ty
      exact ⟨x, t', rfl, et, hy _ rfl _ .refl⟩
    · rw [fm_bl] at e1
      refine all_b e1 ?_
      rw [all_id]
      exact q _ k1
  · rw [e1]
    simp only [gW, Bool.false_eq_true, if_false]
    have : textB v = false := by
      cases v <;> first | rfl | exact absurd rfl (nt _)
    rw [this] at q
    exact q _ .refl
abbrev wNone : List Nat := [110, 111, 110, 101]
abbrev wLag : List Nat := [108, 97, 103]
abbrev wTotal : List Nat := [116, 111, 116, 97, 108]
def promR (s : List Nat) : List EV → Bool
  | [x] => if s = wLag then jQ x 1 4 else decide (s = wTotal) && jQ x 0 60
  | _ => false
def promB : EV → Bool
  | .tup (.str s :: r) => if s = wNone then r.isEmpty else promR s r
  | _ => false
structure PmK (h : EH) (v : EV) : Prop where
  k : Kn h v
  s : ∀ xs, v = .tup xs → ∀ x ∈ xs, Kn h x
theorem kn_intA {h : EH} (i : Int) : Kn h (.int i) := ⟨⟨"int", fun _ _ => rfl⟩, fun ys e => by cases e⟩
theorem kn_strA {h : EH} (s : List Nat) : Kn h (.str s) := ⟨⟨"str", fun _ _ => rfl⟩, fun ys e => by cases e⟩
theorem kn_tupA {h : EH} (xs : List EV) : Kn h (.tup xs) := ⟨⟨"tuple", fun _ _ => rfl⟩, fun ys e => by cases e⟩
theorem kn_nonA {h : EH} : Kn h .non := ⟨⟨"NoneType", fun _ _ => rfl⟩, fun ys e => by cases e⟩
theorem kn_blA {h : EH} (b : Bool) : Kn h (.bl b) := ⟨⟨"bool", fun _ _ => rfl⟩, fun ys e => by cases e⟩
theorem kn_lstA {h : EH} {r : Nat} {xs : List EV} (e : h[r]? = some (.lst xs)) : Kn h (.ref r) := ⟨⟨"list", fun h' k => by simp only [tyE, k.at e]⟩, fun ys e => by cases e⟩
theorem kn_dicA {h : EH} {r : Nat} {xs : List (EV × EV)} (e : h[r]? = some (.dic xs)) : Kn h (.ref r) := ⟨⟨"dict", fun h' k => by simp only [tyE, k.at e]⟩, fun ys e => by cases e⟩
def jf (ad : Ad) : LSp := fun evs h Q => ∃ v : EV, evs = [v] ∧ PmK h v ∧ Q (.bl (promB v)) h
abbrev N_is_promise_k26 : List Str := ["thing"]
def jG (ad : Ad) : LS :=
    aH (bB (lOr (cD (lT (lCB jM (aa (ao 0) (aa (lC (.ty "tuple")) (ak)))))) (lOr (lB (lOp (eqE false) (lCB gJ (aa (ao 0) (ak))) (lC (.int 0)))) (cD (lT (lCB jM (aa (lOp ixA (ao 0) (lC (.int 0))) (aa (lC (.ty "str")) (ak))))))))
      (aM (lC (.bl false)))
      (aW)) <|
    aH (bB (lB (lOp (eqE false) (lOp ixA (ao 0) (lC (.int 0))) (lC (.str [110, 111, 110, 101]))))
      (aM (lOp (eqE false) (lCB gJ (aa (ao 0) (ak))) (lC (.int 1))))
      (aW)) <|
    aH (bB (lB (lOp (eqE true) (lCB gJ (aa (ao 0) (ak))) (lC (.int 2))))
      (aM (lC (.bl false)))
      (aW)) <|
    aH (bB (lB (lOp (eqE false) (lOp ixA (ao 0) (lC (.int 0))) (lC (.str [108, 97, 103]))))
      (aM (aA (dI ad) (aa (lOp ixA (ao 0) (lC (.int 1))) (aa (lC (.int 1)) (aa (lC (.int 4)) (ak))))))
      (aW)) <|
    aM (bD (lOp (eqE false) (lOp ixA (ao 0) (lC (.int 0))) (lC (.str [116, 111, 116, 97, 108]))) (aA (dI ad) (aa (lOp ixA (ao 0) (lC (.int 1))) (aa (lC (.int 0)) (aa (lC (.int 60)) (ak))))))
theorem len_is_promise_k26 (ad : Ad) (evs : List EV) (h : EH) (Q : EK) (q : jf ad evs h Q) : evs.length = ["thing"].length := by
  obtain ⟨_, rfl, _⟩ := q; rfl
theorem promB_ns {a : EV} {r : List EV} (h : ∀ s, a ≠ .str s) : promB (.tup (a :: r)) = false := by
  cases a <;> first | rfl | exact absurd rfl (h _)
theorem pure_is_promise_k26 (ad : Ad) (evs : List EV) (h : EH) (Q : EK) (q : jf ad evs h Q) : jG ad (aO Q) (bF N_is_promise_k26 evs) h := by
  obtain ⟨v, rfl, pk, q⟩ := q
  show jG ad (aO Q) [some v] h
  unfold jG
  rw [aH, bB]
  simp only [bA, aM, dX, dh, lOp, ao, lC, lB, lT, iY, lOr, cD, lIf, bD, jJ, dO, ak, aa, aG, aU, lCB, lBM, lSl, aP, aW, lIt, bV, dU, jN, gq, dW, cQ, dC, lLc, jH, dY, aA, bH, gZ, gS, sZ, sS, bJ, fB, iW, lOr, cD, lT]
  refine nQ pk.k.ty (by simp) fun t e => ?_
  rcases ty_tup e pk.k.2 with ⟨e1, xs, rfl⟩ | ⟨e1, nt⟩
  · rw [e1]
    have hx := pk.s xs rfl
    simp only [gW, Bool.not_true, Bool.false_eq_true, if_false, gJ]
    refine eq_i ?_
    cases xs with
    | nil => simp only [List.length_nil, show decide (((0 : Nat) : Int) = 0) = true from rfl, Bool.false_xor, if_true, aM, lC]; exact q
    | cons a r =>
      rw [decide_eq_false (by simp only [List.length_cons]; omega)]
      simp only [Bool.false_xor, Bool.false_eq_true, if_false]
      refine ia_t (x := a) at0 ?_
      refine nQ ((hx a (by simp)).ty) (by simp) fun t2 e2 => ?_
      rcases ty_str e2 with ⟨e3, s, rfl⟩ | ⟨e3, ns⟩
      · rw [e3]
        simp only [gW, Bool.not_true, Bool.false_eq_true, if_false]
        try refine cP ?_
        rw [aH, bB]
        simp only [bA, aM, dX, dh, lOp, ao, lC, lB, lT, iY, lOr, cD, lIf, bD, jJ, dO, ak, aa, aG, aU, lCB, lBM, lSl, aP, aW, lIt, bV, dU, jN, gq, dW, cQ, dC, lLc, jH, dY, aA, bH, gZ, gS, sZ, sS, bJ, fB, iW]
        refine ia_t (x := .str s) at0 (eq_s ?_)
        have eP : promB (.tup (.str s :: r)) = if s = wNone then r.isEmpty else promR s r := rfl
        by_cases c1 : s = wNone
        · rw [if_pos c1] at eP
          rw [decide_eq_true (show s = [110, 111, 110, 101] from c1)]
          simp only [Bool.false_xor, if_true, gJ, aM]
          refine eq_i ?_
          have : decide ((((EV.str s :: r).length : Nat) : Int) = 1) = r.isEmpty := by
            cases r with
            | nil => rfl
            | cons x r => rw [decide_eq_false (by simp only [List.length_cons]; omega)]; rfl
          rw [this, Bool.false_xor, ← eP]
          exact q
        · rw [if_neg c1] at eP
          rw [decide_eq_false (show ¬ s = [110, 111, 110, 101] from c1)]
          simp only [Bool.false_xor, Bool.false_eq_true, if_false]
          try refine cP ?_
          rw [aH, bB]
          simp only [bA, aM, dX, dh, lOp, ao, lC, lB, lT, iY, lOr, cD, lIf, bD, jJ, dO, ak, aa, aG, aU, lCB, lBM, lSl, aP, aW, lIt, bV, dU, jN, gq, dW, cQ, dC, lLc, jH, dY, aA, bH, gZ, gS, sZ, sS, bJ, fB, iW, gJ]
          refine eq_i ?_
          match r, hx, eP, q with
          | [], hx, eP, q =>
            rw [show (true ^^ decide ((([EV.str s].length : Nat) : Int) = 2)) = true from rfl]
            simp only [if_true, aM, lC]
            rw [eP] at q
            exact q
          | x :: y :: r, hx, eP, q =>
            rw [decide_eq_false (by simp only [List.length_cons]; omega)]
            simp only [Bool.true_xor, Bool.not_false, if_true, aM, lC]
            rw [eP] at q
            exact q
          | [x], hx, eP, q =>
            rw [show (true ^^ decide ((([EV.str s, x].length : Nat) : Int) = 2)) = false from rfl]
            simp only [Bool.false_eq_true, if_false]
            try refine cP ?_
            obtain ⟨t3, e5⟩ := (hx x (by simp)).ty
            rw [aH, bB]
            simp only [bA, aM, dX, dh, lOp, ao, lC, lB, lT, iY, lOr, cD, lIf, bD, jJ, dO, ak, aa, aG, aU, lCB, lBM, lSl, aP, aW, lIt, bV, dU, jN, gq, dW, cQ, dC, lLc, jH, dY, aA, bH, gZ, gS, sZ, sS, bJ, fB, iW]
            refine ia_t (x := .str s) at0 (eq_s ?_)
            replace eP : promB (.tup [.str s, x]) = if s = wLag then jQ x 1 4 else decide (s = wTotal) && jQ x 0 60 := eP
            by_cases c2 : s = wLag
            · rw [if_pos c2] at eP
              rw [decide_eq_true (show s = [108, 97, 103] from c2)]
              simp only [Bool.false_xor, if_true, aM, aA]
              refine ia_t (x := x) rfl ⟨x, t3, 1, 4, rfl, e5, ?_⟩
              rw [← eP]
              exact q
            · rw [if_neg c2] at eP
              rw [decide_eq_false (show ¬ s = [108, 97, 103] from c2)]
              simp only [Bool.false_xor, Bool.false_eq_true, if_false, aM, bD]
              try refine cP ?_
              try simp only [bA, aM, dX, dh, lOp, ao, lC, lB, lT, iY, lOr, cD, lIf, bD, jJ, dO, ak, aa, aG, aU, lCB, lBM, lSl, aP, aW, lIt, bV, dU, jN, gq, dW, cQ, dC, lLc, jH, dY, aA, bH, gZ, gS, sZ, sS, bJ, fB, iW]
              refine ia_t (x := .str s) at0 (eq_s ?_)
              by_cases c3 : s = wTotal
              · rw [decide_eq_true c3, Bool.true_and] at eP
                rw [decide_eq_true (show s = [116, 111, 116, 97, 108] from c3)]
                simp only [Bool.false_xor, if_true, aA]
                refine ia_t (x := x) rfl ⟨x, t3, 0, 60, rfl, e5, ?_⟩
                rw [← eP]
                exact q
              · rw [decide_eq_false c3, Bool.false_and] at eP
                rw [decide_eq_false (show ¬ s = [116, 111, 116, 97, 108] from c3)]
                simp only [Bool.false_xor, Bool.false_eq_true, if_false]
                rw [eP] at q
                exact q
      · rw [e3]
        simp only [gW, Bool.not_false, if_true, aM, lC]
        rw [promB_ns ns] at q
        exact q
  · rw [e1]
    simp only [gW, Bool.not_false, if_true, aM, lC]
    have : promB v = false := by
      cases v <;> first | rfl | exact absurd rfl (nt _)
    rw [this] at q
    exact q
section
variable {w : Wd} {z : Int}
end
section
variable {f : Int → Int} {A : List Int} {w v : Wd}
end
section
variable {ad : Ad} {h : EH} {s1 s2 : Nat} {w v : Wd} {a b a2 b2 : Bool} {env : En} {i : Nat}
end
section
variable {h h' : EH} {v : EV} {w : Wd} {x y : Bool} {P : EK}
end
theorem gtE_i {i j : Int} {h : EH} {P : EK} (p : P (.bl (decide (j < i))) h) : gtE (.int i) (.int j) h P := by
  simp only [gtE]
  first | exact p | exact ⟨_, _, rfl, rfl, p⟩
def datCs (f : EV → Option PyData) : List EV → Option (List PyData)
  | [] => some []
  | x :: xs => match f x with
    | some d => match datCs f xs with
      | some ds => some (d :: ds)
      | none => none
    | none => none
def datL : EV → Option PyData
  | .non => some .none
  | .bl b => some (.bool b)
  | .int i => some (.int i)
  | .str s => some (.str (S s))
  | _ => none
def datC : Nat → EV → Option PyData
  | 0, v => datL v
  | n + 1, v => match v with
    | .tup xs => if xs.length ≤ 1000 then (datCs (datC n) xs).map .tuple else none
    | v => datL v
theorem datL_ok {v : EV} {d : PyData} (e : datL v = some d) : LeafD v d := by
  cases v <;> first | cases e; exact rfl | cases e
theorem datCs_ok {f : EV → Option PyData} {R : EV → PyData → Prop} (ih : ∀ v d, f v = some d → R v d) : ∀ {xs : List EV} {ds : List PyData}, datCs f xs = some ds → Paired R xs ds
  | [], ds, e => by cases e; exact .nil
  | x :: xs, ds, e => by
    unfold datCs at e
    split at e
    · rename_i d e1
      split at e
      · rename_i ds' e2
        cases e
        exact .cons (ih _ _ e1) (datCs_ok ih e2)
      · cases e
    · cases e
abbrev wLeft : List Nat := [108, 101, 102, 116]
abbrev wRight : List Nat := [114, 105, 103, 104, 116]
def oU : EV → Bool
  | .str s => decide (s = wLeft) || decide (s = wRight)
  | _ => false
def pairB : EV → Bool
  | .tup [x, y] => jQ x 1 3 && jQ y 1 3
  | _ => false
def goB : EV → Bool
  | .tup [x, y] => textB x && textB y
  | _ => false
structure Jd (h : EH) (v : EV) : Prop where
  d : Kd h v
  s : ∀ s, v = .str s → s.length ≤ 100000
theorem Jd.keep {h h' : EH} {v : EV} (z : Jd h v) (k : aD no1 h h') : Jd h' v := ⟨z.d.keep k, z.s⟩
def kJ (ad : Ad) : LSp := fun evs h Q => ∃ v t, evs = [v] ∧ tyE v h = some t ∧ Q (.bl (oU v)) h
def sp_is_pair (ad : Ad) : LSp := fun evs h Q => ∃ v, evs = [v] ∧ Kd h v ∧ ∀ h', aD no1 h h' → Q (.bl (pairB v)) h'
def iG (ad : Ad) : LSp := fun evs h Q => ∃ v, evs = [v] ∧ Kd h v ∧ ∀ h', aD no1 h h' → Q (.bl (goB v)) h'
def jj (ad : Ad) : LSp := fun evs h Q => ∃ v t, evs = [v] ∧ tyE v h = some t ∧ Q (.bl (letB v)) h
def iU (ad : Ad) : LSp := fun evs h Q => ∃ v : EV, evs = [v] ∧ Kn h v ∧ (∀ xs, v = .tup xs → xs.length ≤ 1000 ∧ ∀ x ∈ xs, Kn h x) ∧ ∀ h', aD no1 h h' → Q (.bl (textB v)) h'
def ji (ad : Ad) : LSp := fun evs h Q => ∃ v, evs = [v] ∧ (tyE v h).isSome = true ∧ (∀ s, v = .str s → s.length ≤ 100000) ∧ ∀ h', aD no1 h h' → Q (.bl (isScr v)) h'
def jV (ad : Ad) : LSp := fun evs h Q => ∃ v t, evs = [v] ∧ tyE v h = some t ∧ Q (.bl (oU v)) h
def jU (ad : Ad) : LSp := fun evs h Q => ∃ v, evs = [v] ∧ Kd h v ∧ ∀ h', aD no1 h h' → Q (.bl (pairB v)) h'
def iJ (ad : Ad) : LSp := fun evs h Q => ∃ v : EV, evs = [v] ∧ PmK h v ∧ Q (.bl (promB v)) h
def gG (ad : Ad) : LSp := fun evs h Q => ∃ v, evs = [v] ∧ Kd h v ∧ ∀ h', aD no1 h h' → Q (.bl (goB v)) h'
def judged (v : EV) : List Bool := [isInt v, letB v, textB v, oU v, isScr v, promB v, pairB v, goB v]
def fQ (ad : Ad) : LSp := fun evs h Q => ∃ v, evs = [v] ∧ Jd h v ∧ ∀ r h', aD no1 h h' → h.length ≤ r → h'[r]? = some (.lst ((judged v).map EV.bl)) → Q (.ref r) h'
def cV (ad : Ad) : LSp := fun evs h Q => ∃ v, evs = [v] ∧ Jd h v ∧ ∀ r h', aD no1 h h' → h.length ≤ r → h'[r]? = some (.lst ((judged v).map EV.bl)) → Q (.ref r) h'
abbrev N_is_side_k11 : List Str := ["thing"]
def mQ (ad : Ad) : LS :=
    aM (bD (lCB jM (aa (ao 0) (aa (lC (.ty "str")) (ak)))) (lOp (inA false) (ao 0) (lC (.ktup [.str [108, 101, 102, 116], .str [114, 105, 103, 104, 116]]))))
abbrev N_is_pair : List Str := ["thing", "one"]
def t_is_pair (ad : Ad) : LS :=
    aM (bD (lCB jM (aa (ao 0) (aa (lC (.ty "tuple")) (ak)))) (bD (lOp (eqE false) (lCB gJ (aa (ao 0) (ak))) (lC (.int 2))) (lCB allE (aa (lLc (lIt (ao 0)) (.nm 1) (mY) (aA (dI ad) (aa (ao 1) (aa (lC (.int 1)) (aa (lC (.int 3)) (ak))))) [1]) (ak)))))
abbrev N_is_going_on_k11 : List Str := ["thing", "one"]
def jg (ad : Ad) : LS :=
    aM (bD (lCB jM (aa (ao 0) (aa (lC (.ty "tuple")) (ak)))) (bD (lOp (eqE false) (lCB gJ (aa (ao 0) (ak))) (lC (.int 2))) (lCB allE (aa (lLc (lIt (ao 0)) (.nm 1) (mY) (aA (jk ad) (aa (ao 1) (ak))) [1]) (ak)))))
abbrev N__law_letter : List Str := ["_law_thing"]
def mO (ad : Ad) : LS :=
    aM (bD (aA (cC ad) (aa (ao 0) (ak))) (bH leE leE (lC (.int 0)) (ao 0) (lOp powE (lC (.int 10)) (lC (.int 9)))))
abbrev N__law_is_text : List Str := ["_law_thing", "_law_one_here"]
def kE (ad : Ad) : LS :=
    aM (bD (lCB jM (aa (ao 0) (aa (lC (.ty "tuple")) (ak)))) (lOp eqN (lLc (lIt (ao 0)) (.nm 1) (cD (lT (aA (jj ad) (aa (ao 1) (ak))))) (ao 1) [1]) (aU (ak))))
abbrev N__law_is_script : List Str := ["_law_thing", "_law_one_here"]
def jF (ad : Ad) : LS :=
    aM (bD (lCB jM (aa (ao 0) (aa (lC (.ty "str")) (ak)))) (lOp eqN (lLc (lIt (ao 0)) (.nm 1) (lB (lOp (inA true) (ao 1) (aG (aa (lC (.str [107])) (aa (lC (.str [100])) (aa (lC (.str [112])) (ak))))))) (ao 1) [1]) (aU (ak))))
abbrev N__law_is_side : List Str := ["_law_thing"]
def lK (ad : Ad) : LS :=
    aM (bD (lCB jM (aa (ao 0) (aa (lC (.ty "str")) (ak)))) (lOp (inA false) (ao 0) (aG (aa (lC (.str [108, 101, 102, 116])) (aa (lC (.str [114, 105, 103, 104, 116])) (ak))))))
abbrev N__law_is_pair : List Str := ["_law_thing", "_law_one_here"]
def t__law_is_pair_1 (ad : Ad) : LS :=
    aM (lOp eqN (lLc (lIt (ao 0)) (.nm 1) (lOr (cD (lT (aA (cC ad) (aa (ao 1) (ak))))) (lOr (lB (lOp ltE (ao 1) (lC (.int 1)))) (lB (lOp gtE (ao 1) (lC (.int 3)))))) (ao 1) [1]) (aU (ak)))
def t__law_is_pair_0 (ad : Ad) : LS :=
    aH (bB (lOr (cD (lT (lCB jM (aa (ao 0) (aa (lC (.ty "tuple")) (ak)))))) (lB (lOp (eqE true) (lCB gJ (aa (ao 0) (ak))) (lC (.int 2)))))
      (aM (lC (.bl false)))
      (aW)) <| t__law_is_pair_1 ad
def t__law_is_pair (ad : Ad) : LS :=
    aH (bB (lOr (cD (lT (lCB jM (aa (ao 0) (aa (lC (.ty "tuple")) (ak)))))) (lB (lOp (eqE true) (lCB gJ (aa (ao 0) (ak))) (lC (.int 2)))))
      (aM (lC (.bl false)))
      (aW)) <|
    aM (lOp eqN (lLc (lIt (ao 0)) (.nm 1) (lOr (cD (lT (aA (cC ad) (aa (ao 1) (ak))))) (lOr (lB (lOp ltE (ao 1) (lC (.int 1)))) (lB (lOp gtE (ao 1) (lC (.int 3)))))) (ao 1) [1]) (aU (ak)))
abbrev N__law_is_promise : List Str := ["_law_thing"]
def nR (ad : Ad) : LS :=
    aM (lIf (lB (lOp (eqE false) (lOp ixA (ao 0) (lC (.int 0))) (lC (.str [108, 97, 103])))) (bH leE leE (lC (.int 1)) (lOp ixA (ao 0) (lC (.int 1))) (lC (.int 4))) (bH leE leE (lC (.int 0)) (lOp ixA (ao 0) (lC (.int 1))) (lC (.int 60))))
def nJ (ad : Ad) : LS :=
    aH (bB (lOr (lB (lOp (inA true) (lOp ixA (ao 0) (lC (.int 0))) (aG (aa (lC (.str [108, 97, 103])) (aa (lC (.str [116, 111, 116, 97, 108])) (ak)))))) (cD (lT (aA (cC ad) (aa (lOp ixA (ao 0) (lC (.int 1))) (ak))))))
      (aM (lC (.bl false)))
      (aW)) <| nR ad
def jP (ad : Ad) : LS :=
    aH (bB (lB (lOp (eqE false) (lCB gJ (aa (ao 0) (ak))) (lC (.int 1))))
      (aM (lOp (eqE false) (lOp ixA (ao 0) (lC (.int 0))) (lC (.str [110, 111, 110, 101]))))
      (aW)) <| nJ ad
def nM (ad : Ad) : LS :=
    aH (bB (lOr (cD (lT (lCB jM (aa (ao 0) (aa (lC (.ty "tuple")) (ak)))))) (lOr (lB (lOp (inA true) (lCB gJ (aa (ao 0) (ak))) (aG (aa (lC (.int 1)) (aa (lC (.int 2)) (ak)))))) (cD (lT (lCB jM (aa (lOp ixA (ao 0) (lC (.int 0))) (aa (lC (.ty "str")) (ak))))))))
      (aM (lC (.bl false)))
      (aW)) <| jP ad
def pN (ad : Ad) : LS :=
    aH (bB (lOr (cD (lT (lCB jM (aa (ao 0) (aa (lC (.ty "tuple")) (ak)))))) (lOr (lB (lOp (inA true) (lCB gJ (aa (ao 0) (ak))) (aG (aa (lC (.int 1)) (aa (lC (.int 2)) (ak)))))) (cD (lT (lCB jM (aa (lOp ixA (ao 0) (lC (.int 0))) (aa (lC (.ty "str")) (ak))))))))
      (aM (lC (.bl false)))
      (aW)) <|
    aH (bB (lB (lOp (eqE false) (lCB gJ (aa (ao 0) (ak))) (lC (.int 1))))
      (aM (lOp (eqE false) (lOp ixA (ao 0) (lC (.int 0))) (lC (.str [110, 111, 110, 101]))))
      (aW)) <|
    aH (bB (lOr (lB (lOp (inA true) (lOp ixA (ao 0) (lC (.int 0))) (aG (aa (lC (.str [108, 97, 103])) (aa (lC (.str [116, 111, 116, 97, 108])) (ak)))))) (cD (lT (aA (cC ad) (aa (lOp ixA (ao 0) (lC (.int 1))) (ak))))))
      (aM (lC (.bl false)))
      (aW)) <|
    aM (lIf (lB (lOp (eqE false) (lOp ixA (ao 0) (lC (.int 0))) (lC (.str [108, 97, 103])))) (bH leE leE (lC (.int 1)) (lOp ixA (ao 0) (lC (.int 1))) (lC (.int 4))) (bH leE leE (lC (.int 0)) (lOp ixA (ao 0) (lC (.int 1))) (lC (.int 60))))
abbrev N__law_is_going_on : List Str := ["_law_thing", "_law_one_here"]
def iQ (ad : Ad) : LS :=
    aM (bD (lCB jM (aa (ao 0) (aa (lC (.ty "tuple")) (ak)))) (bD (lOp (eqE false) (lCB gJ (aa (ao 0) (ak))) (lC (.int 2))) (lOp eqN (lLc (lIt (ao 0)) (.nm 1) (cD (lT (aA (iU ad) (aa (ao 1) (ak))))) (ao 1) [1]) (aU (ak)))))
abbrev N__law_dues : List Str := ["_law_thing", "_law_found"]
def pX (ad : Ad) : LS :=
    aH (bA (aU (aa (aA (cC ad) (aa (ao 0) (ak))) (aa (aA (jj ad) (aa (ao 0) (ak))) (aa (aA (iU ad) (aa (ao 0) (ak))) (aa (aA (jV ad) (aa (ao 0) (ak))) (ak)))))) 1) <|
    aM (lOp bG (ao 1) (aU (aa (aA (ji ad) (aa (ao 0) (ak))) (aa (aA (iJ ad) (aa (ao 0) (ak))) (aa (aA (jU ad) (aa (ao 0) (ak))) (aa (aA (gG ad) (aa (ao 0) (ak))) (ak)))))))
abbrev N__law_tolds : List Str := ["_law_thing", "_law_found"]
def ou (ad : Ad) : LS :=
    aH (bA (aU (aa (aA (cC ad) (aa (ao 0) (ak))) (aa (aA (jC ad) (aa (ao 0) (ak))) (aa (aA (jk ad) (aa (ao 0) (ak))) (aa (aA (kJ ad) (aa (ao 0) (ak))) (ak)))))) 1) <|
    aM (lOp bG (ao 1) (aU (aa (aA (nU ad) (aa (ao 0) (ak))) (aa (aA (jf ad) (aa (ao 0) (ak))) (aa (aA (sp_is_pair ad) (aa (ao 0) (ak))) (aa (aA (iG ad) (aa (ao 0) (ak))) (ak)))))))
theorem len_is_side_k11 (ad : Ad) (evs : List EV) (h : EH) (Q : EK) (q : kJ ad evs h Q) : evs.length = ["thing"].length := by
  obtain ⟨_, _, rfl, _⟩ := q; rfl
theorem len_is_pair (ad : Ad) (evs : List EV) (h : EH) (Q : EK) (q : sp_is_pair ad evs h Q) : evs.length = ["thing"].length := by
  obtain ⟨_, rfl, _⟩ := q; rfl
theorem len_is_going_on_k11 (ad : Ad) (evs : List EV) (h : EH) (Q : EK) (q : iG ad evs h Q) : evs.length = ["thing"].length := by
  obtain ⟨_, rfl, _⟩ := q; rfl
theorem len__law_letter (ad : Ad) (evs : List EV) (h : EH) (Q : EK) (q : jj ad evs h Q) : evs.length = ["_law_thing"].length := by
  obtain ⟨_, _, rfl, _⟩ := q; rfl
theorem len__law_is_text (ad : Ad) (evs : List EV) (h : EH) (Q : EK) (q : iU ad evs h Q) : evs.length = ["_law_thing"].length := by
  obtain ⟨_, rfl, _⟩ := q; rfl
theorem len__law_is_script (ad : Ad) (evs : List EV) (h : EH) (Q : EK) (q : ji ad evs h Q) : evs.length = ["_law_thing"].length := by
  obtain ⟨_, rfl, _⟩ := q; rfl
theorem len__law_is_side (ad : Ad) (evs : List EV) (h : EH) (Q : EK) (q : jV ad evs h Q) : evs.length = ["_law_thing"].length := by
  obtain ⟨_, _, rfl, _⟩ := q; rfl
theorem len__law_is_pair (ad : Ad) (evs : List EV) (h : EH) (Q : EK) (q : jU ad evs h Q) : evs.length = ["_law_thing"].length := by
  obtain ⟨_, rfl, _⟩ := q; rfl
theorem len__law_is_promise (ad : Ad) (evs : List EV) (h : EH) (Q : EK) (q : iJ ad evs h Q) : evs.length = ["_law_thing"].length := by
  obtain ⟨_, rfl, _⟩ := q; rfl
theorem len__law_is_going_on (ad : Ad) (evs : List EV) (h : EH) (Q : EK) (q : gG ad evs h Q) : evs.length = ["_law_thing"].length := by
  obtain ⟨_, rfl, _⟩ := q; rfl
theorem len__law_dues (ad : Ad) (evs : List EV) (h : EH) (Q : EK) (q : fQ ad evs h Q) : evs.length = ["_law_thing"].length := by
  obtain ⟨_, rfl, _⟩ := q; rfl
theorem len__law_tolds (ad : Ad) (evs : List EV) (h : EH) (Q : EK) (q : cV ad evs h Q) : evs.length = ["_law_thing"].length := by
  obtain ⟨_, rfl, _⟩ := q; rfl
theorem side_no {v : EV} (n : ∀ s, v ≠ .str s) : oU v = false := by
  cases v <;> first | rfl | exact absurd rfl (n _)
theorem scr_no {v : EV} (n : ∀ s, v ≠ .str s) : isScr v = false := by
  cases v <;> first | rfl | exact absurd rfl (n _)
theorem text_no {v : EV} (n : ∀ s, v ≠ .tup s) : textB v = false := by
  cases v <;> first | rfl | exact absurd rfl (n _)
theorem pair_no {v : EV} (n : ∀ s, v ≠ .tup s) : pairB v = false := by
  cases v <;> first | rfl | exact absurd rfl (n _)
theorem go_no {v : EV} (n : ∀ s, v ≠ .tup s) : goB v = false := by
  cases v <;> first | rfl | exact absurd rfl (n _)
theorem prom_no {v : EV} (n : ∀ s, v ≠ .tup s) : promB v = false := by
  cases v <;> first | rfl | exact absurd rfl (n _)
theorem in_sides {s : List Nat} {h : EH} {P : EK} (p : P (.bl (oU (.str s))) h) : inA false (.str s) (.tup [.str [108, 101, 102, 116], .str [114, 105, 103, 104, 116]]) h P := by
  refine ⟨rfl, rfl, ?_⟩
  have : inF (.str s) [.str [108, 101, 102, 116], .str [114, 105, 103, 104, 116]] = oU (.str s) := by
    have a : ∀ x y : List Nat, decide (x = y) = decide (y = x) := fun x y => decide_eq_decide.mpr eq_comm
    simp [inF, eqF, oU, a wLeft s, a wRight s]
  rw [this]
  simpa using p
theorem pure_is_side_k11 (ad : Ad) (evs : List EV) (h : EH) (Q : EK) (q : kJ ad evs h Q) : mQ ad (aO Q) (bF N_is_side_k11 evs) h := by
  obtain ⟨v, t, rfl, e, q⟩ := q
  show mQ ad (aO Q) [some v] h
  unfold mQ
  simp only [aM, bD, lCB, lOp, lC, aa, ak, ao, gZ]
  refine nQ ⟨t, e⟩ (by simp) fun t2 e2 => ?_
  rcases ty_str e2 with ⟨e3, s, rfl⟩ | ⟨e3, ns⟩
  · rw [e3]
    simp only [if_true]
    exact in_sides q
  · rw [e3]
    simp only [Bool.false_eq_true, if_false]
    rw [side_no ns] at q
    exact q
theorem pure__law_is_side (ad : Ad) (evs : List EV) (h : EH) (Q : EK) (q : jV ad evs h Q) : lK ad (aO Q) (bF N__law_is_side evs) h := by
  obtain ⟨v, t, rfl, e, q⟩ := q
  show lK ad (aO Q) [some v] h
  unfold lK
  simp only [aM, bD, lCB, lOp, aG, lC, aa, ak, ao, gZ]
  refine nQ ⟨t, e⟩ (by simp) fun t2 e2 => ?_
  rcases ty_str e2 with ⟨e3, s, rfl⟩ | ⟨e3, ns⟩
  · rw [e3]
    simp only [if_true]
    exact ⟨by simp [aN], in_sides q⟩
  · rw [e3]
    simp only [Bool.false_eq_true, if_false]
    rw [side_no ns] at q
    exact q
theorem pure__law_letter (ad : Ad) (evs : List EV) (h : EH) (Q : EK) (q : jj ad evs h Q) : mO ad (aO Q) (bF N__law_letter evs) h := by
  obtain ⟨v, t, rfl, e, q⟩ := q
  show mO ad (aO Q) [some v] h
  unfold mO
  simp only [aM, bD, aA, bH, lOp, lC, aa, ak, ao, gZ]
  refine ⟨v, t, rfl, e, ?_⟩
  unfold letB jQ at q
  cases v <;> simp only [isInt, Bool.false_eq_true, if_false, if_true] at q ⊢ <;> try exact q
  rename_i i
  refine (show leE (.int 0) (.int i) h _ from ?_)
  simp only [leE, fB]
  by_cases c : 0 ≤ i
  · rw [decide_eq_true c, Bool.true_and] at q
    rw [decide_eq_true c]
    simp only [if_true]
    refine pow_i (by unfold CPow; decide) ?_
    exact q
  · rw [decide_eq_false c, Bool.false_and] at q
    rw [decide_eq_false c]
    simp only [Bool.false_eq_true, if_false]
    exact q
theorem filt_all (f : EV → Bool) (xs : List EV) : decide ((xs.filterMap fun x => if (!f x) = true then some x else none) = []) = xs.all f := by
  rw [Bool.eq_iff_iff, decide_eq_true_eq, List.filterMap_eq_nil_iff, List.all_eq_true]
  constructor
  · intro h x hx
    have := h x hx
    cases hf : f x with
    | true => rfl
    | false => rw [hf] at this; simp at this
  · intro h x hx
    rw [h x hx]
    rfl
theorem pure__law_is_text (ad : Ad) (evs : List EV) (h : EH) (Q : EK) (q : iU ad evs h Q) : kE ad (aO Q) (bF N__law_is_text evs) h := by
  obtain ⟨v, rfl, kn, ks, q⟩ := q
  show kE ad (aO Q) [some v, none] h
  unfold kE
  simp only [aM, bD, lCB, lOp, lLc, lIt, aU, lC, aa, ak, ao, gZ]
  refine nQ kn.ty (by simp) fun t2 e2 => ?_
  rcases ty_tup e2 kn.2 with ⟨e3, xs, rfl⟩ | ⟨e3, ns⟩
  · rw [e3]
    obtain ⟨hl, hx⟩ := ks xs rfl
    simp only [if_true]
    refine lc_keepI (fun x => if (!letB x) = true then some x else none) xs (by omega) (fun _ _ => trivial) (fun x hxm h' ky kn' k hy hk => iD ?_) fun h1 k1 e1 => ?_
    · simp only [sZ, sS, bJ, cD, lT, aA, aa, ak, ao, gZ, gS]
      obtain ⟨t3, e4⟩ := ((hx x hxm).keep k).ty
      refine ⟨x, t3, rfl, e4, ?_⟩
      simp only [gW]
      cases hb : letB x with
      | true =>
        simp only [Bool.not_true, Bool.false_eq_true, if_false]
        exact hk (by rw [hb]; rfl) _ .refl
      | false =>
        simp only [Bool.not_false, if_true]
        exact hy _ (by rw [hb]; rfl) _ .refl
    · refine ⟨by simp [aN], eqN_l (dG e1 _) aV ?_⟩
      rw [filt_all]
      exact q _ (k1.trans (aD.app _))
  · rw [e3]
    simp only [Bool.false_eq_true, if_false]
    rw [text_no ns] at q
    exact q h .refl
theorem pure__law_is_script (ad : Ad) (evs : List EV) (h : EH) (Q : EK) (q : ji ad evs h Q) : jF ad (aO Q) (bF N__law_is_script evs) h := by
  obtain ⟨v, rfl, ht, hl, q⟩ := q
  obtain ⟨t, ht⟩ := Option.isSome_iff_exists.mp ht
  show jF ad (aO Q) [some v, none] h
  unfold jF
  simp only [aM, bD, lCB, lOp, lLc, lIt, aU, aG, lC, aa, ak, ao, gZ]
  refine nQ ⟨t, ht⟩ (by simp) fun t2 e2 => ?_
  rcases ty_str e2 with ⟨e3, s, rfl⟩ | ⟨e3, ns⟩
  · rw [e3]
    simp only [if_true]
    refine lc_keep (fun c : Nat => EV.str [c]) (fun c => if (!isSt c) = true then some (.str [c]) else none) s (by have := hl s rfl; omega) (fun _ _ => trivial) (fun c hc h' ky kn' k hy hk => iD ?_) fun h1 k1 e1 => ?_
    · simp only [sZ, sS, bJ, lB, lOp, aG, lC, aa, ak, ao, gZ, gS]
      refine ⟨by simp [aN], rfl, rfl, ?_⟩
      have : (true ^^ inF (.str [c]) [.str [107], .str [100], .str [112]]) = !isSt c := by
        have a : ∀ x y : Nat, decide (x = y) = decide (y = x) := fun x y => decide_eq_decide.mpr eq_comm
        simp [inF, eqF, isSt, Bool.or_assoc, a 107 c, a 100 c, a 112 c]
      rw [this]
      cases hb : isSt c with
      | true =>
        simp only [Bool.not_true, Bool.false_eq_true, if_false]
        exact hk (by rw [hb]; rfl) _ .refl
      | false =>
        simp only [Bool.not_false, if_true]
        exact hy _ (by rw [hb]; rfl) _ .refl
    · refine ⟨by simp [aN], eqN_l (dG e1 _) aV ?_⟩
      have : decide ((s.filterMap fun c => if (!isSt c) = true then some (EV.str [c]) else none) = []) = s.all isSt := by
        rw [Bool.eq_iff_iff, decide_eq_true_eq, List.filterMap_eq_nil_iff, List.all_eq_true]
        constructor
        · intro h x hx
          have := h x hx
          cases hf : isSt x with
          | true => rfl
          | false => rw [hf] at this; simp at this
        · intro h x hx
          rw [h x hx]
          rfl
      rw [this]
      exact q _ (k1.trans (aD.app _))
  · rw [e3]
    simp only [Bool.false_eq_true, if_false]
    rw [scr_no ns] at q
    exact q h .refl
theorem len2 {xs : List EV} {h : EH} {P : EK} (n : Bool) (p : P (.bl (n ^^ decide (xs.length = 2))) h) : eqE n (.int (xs.length : Nat)) (.int 2) h P := by
  refine eq_i ?_
  have : decide (((xs.length : Nat) : Int) = 2) = decide (xs.length = 2) := decide_eq_decide.mpr (by omega)
  rw [this]
  exact p
theorem two_of {xs : List EV} (h : xs.length = 2) : ∃ x y, xs = [x, y] := by
  match xs, h with
  | [x, y], _ => exact ⟨x, y, rfl⟩
theorem pair_ne {xs : List EV} (h : xs.length ≠ 2) : pairB (.tup xs) = false := by
  match xs, h with
  | [], _ => rfl
  | [x], _ => rfl
  | [x, y], h => exact absurd rfl h
  | x :: y :: z :: r, _ => rfl
theorem go_ne {xs : List EV} (h : xs.length ≠ 2) : goB (.tup xs) = false := by
  match xs, h with
  | [], _ => rfl
  | [x], _ => rfl
  | [x, y], h => exact absurd rfl h
  | x :: y :: z :: r, _ => rfl
theorem pure_is_pair (ad : Ad) (evs : List EV) (h : EH) (Q : EK) (q : sp_is_pair ad evs h Q) : t_is_pair ad (aO Q) (bF N_is_pair evs) h := by
  obtain ⟨v, rfl, kd, q⟩ := q
  show t_is_pair ad (aO Q) [some v, none] h
  unfold t_is_pair
  simp only [aM, bD, lCB, lOp, lLc, lIt, aU, lC, aa, ak, ao, gZ]
  refine nQ kd.k.ty (by simp) fun t2 e2 => ?_
  rcases ty_tup e2 kd.k.2 with ⟨e3, xs, rfl⟩ | ⟨e3, ns⟩
  · rw [e3]
    obtain ⟨hl, hx⟩ := kd.s xs rfl
    simp only [if_true, gJ]
    refine len2 false ?_
    rw [Bool.false_xor]
    by_cases c : xs.length = 2
    · rw [decide_eq_true c]
      simp only [if_true]
      refine lc_keepI (fun x => some (.bl (jQ x 1 3))) xs (by omega) (fun _ _ => trivial) (fun x hxm h' ky kn' k hy hk => iD ?_) fun h1 k1 e1 => ?_
      · simp only [sZ, sS, bJ, mY, if_true, aA, lC, aa, ak, ao, gZ, gS]
        obtain ⟨t3, e4⟩ := ((hx x hxm).1.keep k).ty
        exact ⟨x, t3, 1, 3, rfl, e4, hy _ rfl _ .refl⟩
      rw [fm_bl] at e1
      refine all_b e1 ?_
      rw [all_id]
      obtain ⟨x, y, rfl⟩ := two_of c
      have : ([x, y].all fun x => jQ x 1 3) = pairB (.tup [x, y]) := by simp [pairB]
      rw [this]
      exact q _ k1
    · rw [decide_eq_false c]
      simp only [Bool.false_eq_true, if_false]
      rw [pair_ne c] at q
      exact q h .refl
  · rw [e3]
    simp only [Bool.false_eq_true, if_false]
    rw [pair_no ns] at q
    exact q h .refl
theorem pure_is_going_on_k11 (ad : Ad) (evs : List EV) (h : EH) (Q : EK) (q : iG ad evs h Q) : jg ad (aO Q) (bF N_is_going_on_k11 evs) h := by
  obtain ⟨v, rfl, kd, q⟩ := q
  show jg ad (aO Q) [some v, none] h
  unfold jg
  simp only [aM, bD, lCB, lOp, lLc, lIt, aU, lC, aa, ak, ao, gZ]
  refine nQ kd.k.ty (by simp) fun t2 e2 => ?_
  rcases ty_tup e2 kd.k.2 with ⟨e3, xs, rfl⟩ | ⟨e3, ns⟩
  · rw [e3]
    obtain ⟨hl, hx⟩ := kd.s xs rfl
    simp only [if_true, gJ]
    refine len2 false ?_
    rw [Bool.false_xor]
    by_cases c : xs.length = 2
    · rw [decide_eq_true c]
      simp only [if_true]
      refine lc_keepI (fun x => some (.bl (textB x))) xs (by omega) (fun _ _ => trivial) (fun x hxm h' ky kn' k hy hk => iD ?_) fun h1 k1 e1 => ?_
      · simp only [sZ, sS, bJ, mY, if_true, aA, lC, aa, ak, ao, gZ, gS]
        exact ⟨x, rfl, (hx x hxm).1.keep k, fun ys ey => ⟨((hx x hxm).2 ys ey).1, fun y hy2 => (((hx x hxm).2 ys ey).2 y hy2).keep k⟩, fun h2 k2 => hy _ rfl _ k2⟩
      rw [fm_bl] at e1
      refine all_b e1 ?_
      rw [all_id]
      obtain ⟨x, y, rfl⟩ := two_of c
      have : ([x, y].all fun x => textB x) = goB (.tup [x, y]) := by simp [goB]
      rw [this]
      exact q _ k1
    · rw [decide_eq_false c]
      simp only [Bool.false_eq_true, if_false]
      rw [go_ne c] at q
      exact q h .refl
  · rw [e3]
    simp only [Bool.false_eq_true, if_false]
    rw [go_no ns] at q
    exact q h .refl
theorem pure__law_is_going_on (ad : Ad) (evs : List EV) (h : EH) (Q : EK) (q : gG ad evs h Q) : iQ ad (aO Q) (bF N__law_is_going_on evs) h := by
  obtain ⟨v, rfl, kd, q⟩ := q
  show iQ ad (aO Q) [some v, none] h
  unfold iQ
  simp only [aM, bD, lCB, lOp, lLc, lIt, aU, lC, aa, ak, ao, gZ]
  refine nQ kd.k.ty (by simp) fun t2 e2 => ?_
  rcases ty_tup e2 kd.k.2 with ⟨e3, xs, rfl⟩ | ⟨e3, ns⟩
  · rw [e3]
    obtain ⟨hl, hx⟩ := kd.s xs rfl
    simp only [if_true, gJ]
    refine len2 false ?_
    rw [Bool.false_xor]
    by_cases c : xs.length = 2
    · rw [decide_eq_true c]
      simp only [if_true]
      refine lc_keepI (fun x => if (!textB x) = true then some x else none) xs (by omega) (fun _ _ => trivial) (fun x hxm h' ky kn' k hy hk => iD ?_) fun h1 k1 e1 => ?_
      · simp only [sZ, sS, bJ, cD, lT, aA, aa, ak, ao, gZ, gS]
        refine ⟨x, rfl, (hx x hxm).1.keep k, fun ys ey => ⟨((hx x hxm).2 ys ey).1, fun y hy2 => (((hx x hxm).2 ys ey).2 y hy2).keep k⟩, fun h2 k2 => ?_⟩
        simp only [gW]
        cases hb : textB x with
        | true =>
          simp only [Bool.not_true, Bool.false_eq_true, if_false]
          exact hk (by rw [hb]; rfl) _ k2
        | false =>
          simp only [Bool.not_false, if_true]
          exact hy _ (by rw [hb]; rfl) _ k2
      refine ⟨by simp [aN], eqN_l (dG e1 _) aV ?_⟩
      rw [filt_all]
      obtain ⟨x, y, rfl⟩ := two_of c
      have : ([x, y].all fun x => textB x) = goB (.tup [x, y]) := by simp [goB]
      rw [show [x, y].all textB = goB (.tup [x, y]) from this]
      exact q _ (k1.trans (aD.app _))
    · rw [decide_eq_false c]
      simp only [Bool.false_eq_true, if_false]
      rw [go_ne c] at q
      exact q h .refl
  · rw [e3]
    simp only [Bool.false_eq_true, if_false]
    rw [go_no ns] at q
    exact q h .refl
theorem pure__law_is_pair (ad : Ad) (evs : List EV) (h : EH) (Q : EK) (q : jU ad evs h Q) : t__law_is_pair ad (aO Q) (bF N__law_is_pair evs) h := by
  obtain ⟨v, rfl, kd, q⟩ := q
  show t__law_is_pair_0 ad (aO Q) [some v, none] h
  unfold t__law_is_pair_0
  rw [aH, bB]
  simp only [lOr, cD, lT, lB, lCB, lOp, lC, aa, ak, ao, gZ]
  refine nQ kd.k.ty (by simp) fun t2 e2 => ?_
  rcases ty_tup e2 kd.k.2 with ⟨e3, xs, rfl⟩ | ⟨e3, ns⟩
  · rw [e3]
    obtain ⟨hl, hx⟩ := kd.s xs rfl
    simp only [gW, Bool.not_true, Bool.false_eq_true, if_false, gJ]
    refine len2 true ?_
    by_cases c : xs.length = 2
    · rw [decide_eq_true c]
      simp only [Bool.xor_true, Bool.not_true, Bool.false_eq_true, if_false]
      try refine cP ?_
      unfold t__law_is_pair_1
      simp only [aM, lOp, lLc, lIt, aU, lC, aa, ak, ao, gZ]
      refine lc_keepI (fun x => if (!jQ x 1 3) = true then some x else none) xs (by omega) (fun _ _ => trivial) (fun x hxm h' ky kn' k hy hk => iD ?_) fun h1 k1 e1 => ?_
      · simp only [sZ, sS, bJ, lOr, cD, lT, lB, aA, lOp, lC, aa, ak, ao, gZ, gS]
        obtain ⟨t3, e4⟩ := ((hx x hxm).1.keep k).ty
        refine ⟨x, t3, rfl, e4, ?_⟩
        simp only [gW]
        by_cases hi : ∃ i, x = .int i
        · obtain ⟨i, rfl⟩ := hi
          simp only [isInt, Bool.not_true, Bool.false_eq_true, if_false]
          refine lt_i ?_
          have eb : jQ (.int i) 1 3 = (decide (1 ≤ i) && decide (i ≤ 3)) := rfl
          by_cases c1 : i < 1
          · rw [decide_eq_true c1]
            simp only [if_true]
            exact hy _ (by rw [eb, decide_eq_false (by omega)]; rfl) _ .refl
          · rw [decide_eq_false c1]
            simp only [Bool.false_eq_true, if_false]
            refine gtE_i ?_
            by_cases c3 : (3 : Int) < i
            · rw [decide_eq_true c3]
              simp only [if_true]
              exact hy _ (by rw [eb, decide_eq_false (show ¬ i ≤ 3 by omega), Bool.and_false]; rfl) _ .refl
            · rw [decide_eq_false c3]
              simp only [Bool.false_eq_true, if_false]
              exact hk (by rw [eb, decide_eq_true (show 1 ≤ i by omega), decide_eq_true (show i ≤ 3 by omega)]; rfl) _ .refl
        · have ni : isInt x = false := by cases x <;> first | rfl | exact absurd ⟨_, rfl⟩ hi
          have nb : jQ x 1 3 = false := by cases x <;> first | rfl | exact absurd ⟨_, rfl⟩ hi
          rw [ni]
          simp only [Bool.not_false, if_true]
          exact hy _ (by rw [nb]; rfl) _ .refl
      refine ⟨by simp [aN], eqN_l (dG e1 _) aV ?_⟩
      rw [filt_all fun x => jQ x 1 3]
      obtain ⟨x, y, rfl⟩ := two_of c
      have : ([x, y].all fun x => jQ x 1 3) = pairB (.tup [x, y]) := by simp [pairB]
      rw [this]
      exact q _ (k1.trans (aD.app _))
    · rw [decide_eq_false c]
      simp only [Bool.xor_false, if_true, aM, lC]
      rw [pair_ne c] at q
      exact q h .refl
  · rw [e3]
    simp only [gW, Bool.not_false, if_true, aM, lC]
    rw [pair_no ns] at q
    exact q h .refl
theorem inA_12 {n : Nat} {h : EH} {P : EK} (p : P (.bl (!decide (n = 1 ∨ n = 2))) h) : inA true (.int (n : Nat)) (.tup [.int 1, .int 2]) h P := by
  refine ⟨rfl, rfl, ?_⟩
  have : (true ^^ inF (.int (n : Nat)) [.int 1, .int 2]) = !decide (n = 1 ∨ n = 2) := by
    simp only [inF, List.any_cons, List.any_nil, eqF, Bool.or_false, Bool.true_xor]
    congr 1
    rw [Bool.eq_iff_iff]
    simp only [Bool.or_eq_true, decide_eq_true_eq]
    omega
  rw [this]
  exact p
theorem inA_lt {s : List Nat} {h : EH} {P : EK} (p : P (.bl (!decide (s = wLag ∨ s = wTotal))) h) : inA true (.str s) (.tup [.str [108, 97, 103], .str [116, 111, 116, 97, 108]]) h P := by
  refine ⟨rfl, rfl, ?_⟩
  have : (true ^^ inF (.str s) [.str [108, 97, 103], .str [116, 111, 116, 97, 108]]) = !decide (s = wLag ∨ s = wTotal) := by
    simp only [inF, List.any_cons, List.any_nil, eqF, Bool.or_false, Bool.true_xor]
    congr 1
    rw [Bool.eq_iff_iff]
    simp only [Bool.or_eq_true, decide_eq_true_eq]
    constructor
    · rintro (e | e)
      · exact .inl e.symm
      · exact .inr e.symm
    · rintro (e | e)
      · exact .inl e.symm
      · exact .inr e.symm
  rw [this]
  exact p
theorem pure__law_is_promise (ad : Ad) (evs : List EV) (h : EH) (Q : EK) (q : iJ ad evs h Q) : pN ad (aO Q) (bF N__law_is_promise evs) h := by
  obtain ⟨v, rfl, pk, q⟩ := q
  show nM ad (aO Q) [some v] h
  unfold nM
  rw [aH, bB]
  simp only [lOr, cD, lT, lB, lCB, lOp, aG, lC, aa, ak, ao, gZ]
  refine nQ pk.k.ty (by simp) fun t2 e2 => ?_
  rcases ty_tup e2 pk.k.2 with ⟨e3, xs, rfl⟩ | ⟨e3, ns⟩
  · rw [e3]
    have hx := pk.s xs rfl
    simp only [gW, Bool.not_true, Bool.false_eq_true, if_false, gJ]
    refine ⟨by simp [aN], inA_12 ?_⟩
    match xs, hx, q with
    | [], hx, q =>
      rw [show (!decide (([] : List EV).length = 1 ∨ ([] : List EV).length = 2)) = true from rfl]
      simp only [if_true, aM, lC]
      exact q
    | x :: y :: z :: r, hx, q =>
      rw [show (!decide ((x :: y :: z :: r).length = 1 ∨ (x :: y :: z :: r).length = 2)) = true by simp]
      simp only [if_true, aM, lC]
      have : promB (.tup (x :: y :: z :: r)) = false := by
        cases x <;> first | rfl | skip
        rename_i s
        show (if s = wNone then false else promR s (y :: z :: r)) = false
        split <;> rfl
      rw [this] at q
      exact q
    | [x], hx, q =>
      rw [show (!decide (([x] : List EV).length = 1 ∨ ([x] : List EV).length = 2)) = false from rfl]
      simp only [Bool.false_eq_true, if_false]
      refine ia_t (x := x) at0 ?_
      refine nQ (hx x (by simp)).ty (by simp) fun t3 e4 => ?_
      rcases ty_str e4 with ⟨e5, s, rfl⟩ | ⟨e5, ns⟩
      · rw [e5]
        simp only [gW, Bool.not_true, Bool.false_eq_true, if_false]
        try refine cP ?_
        unfold jP
        try dsimp only
        rw [aH, bB]
        simp only [lB, lCB, lOp, lC, aa, ak, ao, gZ, gJ, List.length_singleton]
        refine eq_i ?_
        simp only [show (false ^^ decide (((1 : Nat) : Int) = 1)) = true from rfl, if_true, aM, lOp, lC, ao, gZ]
        refine ia_t (x := .str s) at0 (eq_s ?_)
        have : promB (.tup [.str s]) = decide (s = wNone) := by
          show (if s = wNone then true else false) = _
          by_cases c : s = wNone <;> simp [c]
        rw [this] at q
        rw [Bool.false_xor]
        exact q
      · rw [e5]
        simp only [gW, Bool.not_false, if_true, aM, lC]
        rw [promB_ns ns] at q
        exact q
    | [x, y], hx, q =>
      rw [show (!decide (([x, y] : List EV).length = 1 ∨ ([x, y] : List EV).length = 2)) = false from rfl]
      simp only [Bool.false_eq_true, if_false]
      refine ia_t (x := x) at0 ?_
      refine nQ (hx x (by simp)).ty (by simp) fun t3 e4 => ?_
      rcases ty_str e4 with ⟨e5, s, rfl⟩ | ⟨e5, ns⟩
      · rw [e5]
        simp only [gW, Bool.not_true, Bool.false_eq_true, if_false]
        try refine cP ?_
        unfold jP
        try dsimp only
        rw [aH, bB]
        simp only [lB, lCB, lOp, lC, aa, ak, ao, gZ, gJ, List.length_cons, List.length_nil]
        refine eq_i ?_
        simp only [show (false ^^ decide (((0 + 1 + 1 : Nat) : Int) = 1)) = false from rfl, Bool.false_eq_true, if_false]
        try refine cP ?_
        unfold nJ
        try dsimp only
        rw [aH, bB]
        simp only [lOr, cD, lT, lB, aA, lOp, aG, lC, aa, ak, ao, gZ]
        refine ia_t (x := .str s) at0 ⟨by simp [aN], inA_lt ?_⟩
        have ep : promB (.tup [.str s, y]) = if s = wNone then false else if s = wLag then jQ y 1 4 else decide (s = wTotal) && jQ y 0 60 := rfl
        by_cases c : s = wLag ∨ s = wTotal
        · rw [decide_eq_true c]
          simp only [Bool.not_true, Bool.false_eq_true, if_false]
          obtain ⟨t4, e6⟩ := (hx y (by simp)).ty
          refine ia_t (x := y) at1 ⟨y, t4, rfl, e6, ?_⟩
          have nn : s ≠ wNone := by
            rcases c with rfl | rfl <;> decide
          rw [if_neg nn] at ep
          by_cases hi : ∃ i, y = .int i
          · obtain ⟨i, rfl⟩ := hi
            simp only [gW, isInt, Bool.not_true, Bool.false_eq_true, if_false]
            try refine cP ?_
            unfold nR
            simp only [aM, lIf, lB, lOp, bH, lC, ao, gZ]
            refine ia_t (x := .str s) at0 (eq_s ?_)
            rw [Bool.false_xor]
            have fin : ∀ (lo hi : Int), Q (.bl (decide (lo ≤ i) && decide (i ≤ hi))) h → leE (.int lo) (.int i) h fun v h2 => match v with
                | .bl b => if b = true then leE (.int i) (.int hi) h2 Q else Q (.bl false) h2
                | _ => False := by
              intro lo hi q
              simp only [leE, fB]
              by_cases c : lo ≤ i
              · rw [decide_eq_true c, Bool.true_and] at q
                rw [decide_eq_true c]
                simp only [if_true]
                exact q
              · rw [decide_eq_false c, Bool.false_and] at q
                rw [decide_eq_false c]
                simp only [Bool.false_eq_true, if_false]
                exact q
            by_cases cl : s = wLag
            · rw [if_pos cl] at ep
              rw [ep] at q
              rw [decide_eq_true (show s = [108, 97, 103] from cl)]
              simp only [if_true]
              exact ia_t (x := .int i) at1 (by have := fin 1 4 q; exact this)
            · rw [if_neg cl, decide_eq_true (c.resolve_left cl), Bool.true_and] at ep
              rw [ep] at q
              rw [decide_eq_false (show ¬ s = [108, 97, 103] from cl)]
              simp only [Bool.false_eq_true, if_false]
              exact ia_t (x := .int i) at1 (by have := fin 0 60 q; exact this)
          · have ni : isInt y = false := by cases y <;> first | rfl | exact absurd ⟨_, rfl⟩ hi
            have nb : ∀ lo hi : Int, jQ y lo hi = false := fun lo hi' => by cases y <;> first | rfl | exact absurd ⟨_, rfl⟩ hi
            rw [ni]
            simp only [gW, Bool.not_false, if_true, aM, lC]
            rw [nb, nb] at ep
            have : promB (.tup [.str s, y]) = false := by rw [ep]; split <;> simp
            rw [this] at q
            exact q
        · rw [decide_eq_false c]
          simp only [Bool.not_false, if_true, aM, lC]
          have : promB (.tup [.str s, y]) = false := by
            rw [ep, if_neg (fun e => c (.inl e)), decide_eq_false (fun e => c (.inr e)), Bool.false_and]
            split <;> rfl
          rw [this] at q
          exact q
      · rw [e5]
        simp only [gW, Bool.not_false, if_true, aM, lC]
        rw [promB_ns ns] at q
        exact q
  · rw [e3]
    simp only [gW, Bool.not_false, if_true, aM, lC]
    rw [prom_no ns] at q
    exact q
theorem Jd.pm {h : EH} {v : EV} (z : Jd h v) : PmK h v := ⟨z.d.k, fun xs e x hx => ((z.d.s xs e).2 x hx).1⟩
theorem Jd.tx {h : EH} {v : EV} (z : Jd h v) : ∀ xs, v = .tup xs → xs.length ≤ 1000 ∧ ∀ x ∈ xs, Kn h x := fun xs e => ⟨(z.d.s xs e).1, fun x hx => ((z.d.s xs e).2 x hx).1⟩
theorem Jd.ty {h : EH} {v : EV} (z : Jd h v) : ∃ t, tyE v h = some t := z.d.k.ty
theorem pure__law_dues (ad : Ad) (evs : List EV) (h : EH) (Q : EK) (q : fQ ad evs h Q) : pX ad (aO Q) (bF N__law_dues evs) h := by
  obtain ⟨v, rfl, jd, q⟩ := q
  have sz : sizeLine = 16777216 := aN
  show pX ad (aO Q) [some v, none] h
  unfold pX
  obtain ⟨t, e⟩ := jd.ty
  rw [aH, bA]
  simp only [aU, aA, aa, ak, ao, gZ]
  refine ⟨v, t, rfl, e, ⟨v, t, rfl, e, ⟨v, rfl, jd.d.k, jd.tx, fun h1 k1 => ?_⟩⟩⟩
  obtain ⟨t1, e1⟩ := (jd.keep k1).ty
  refine ⟨v, t1, rfl, e1, ⟨by simp [aN], ?_⟩⟩
  have n1 : (h1 ++ [EO.lst [EV.bl (isInt v), .bl (letB v), .bl (textB v), .bl (oU v)]])[h1.length]? = some (.lst [EV.bl (isInt v), .bl (letB v), .bl (textB v), .bl (oU v)]) := aV
  have k2 : aD no1 h1 (h1 ++ [EO.lst [EV.bl (isInt v), .bl (letB v), .bl (textB v), .bl (oU v)]]) := aD.app _
  generalize (h1 ++ [EO.lst [EV.bl (isInt v), .bl (letB v), .bl (textB v), .bl (oU v)]]) = h2 at n1 k2 ⊢
  have k02 := k1.trans k2
  simp only [sZ, sS, aM, lOp, aU, aA, aa, ak, ao, gZ, gS]
  obtain ⟨t2, e2⟩ := (jd.keep k02).ty
  refine ⟨v, rfl, by rw [e2]; rfl, jd.s, fun h3 k3 => ?_⟩
  have k03 := k02.trans k3
  refine ⟨v, rfl, (jd.keep k03).pm, ⟨v, rfl, (jd.keep k03).d, fun h4 k4 => ⟨v, rfl, (jd.keep (k03.trans k4)).d, fun h5 k5 => ⟨by simp [aN], ?_⟩⟩⟩⟩
  have k05 := (k03.trans k4).trans k5
  have n5 := ((k3.trans k4).trans k5).at n1
  refine add_l (l := h1.length) (r := h5.length) (dG n5 _) aV (by simp [aN]) ?_
  refine q _ _ (k05.trans ((aD.app _).trans (aD.app _))) ?_ aV
  have := k05.1
  rw [List.length_append]
  omega
theorem pure__law_tolds (ad : Ad) (evs : List EV) (h : EH) (Q : EK) (q : cV ad evs h Q) : ou ad (aO Q) (bF N__law_tolds evs) h := by
  obtain ⟨v, rfl, jd, q⟩ := q
  have sz : sizeLine = 16777216 := aN
  show ou ad (aO Q) [some v, none] h
  unfold ou
  obtain ⟨t, e⟩ := jd.ty
  rw [aH, bA]
  simp only [aU, aA, aa, ak, ao, gZ]
  refine ⟨v, t, rfl, e, ⟨v, t, rfl, e, ⟨v, rfl, jd.d.k, jd.tx, fun h1 k1 => ?_⟩⟩⟩
  obtain ⟨t1, e1⟩ := (jd.keep k1).ty
  refine ⟨v, t1, rfl, e1, ⟨by simp [aN], ?_⟩⟩
  have eL : jQ v 0 1000000000 = letB v := rfl
  simp only [eL]
  have n1 : (h1 ++ [EO.lst [EV.bl (isInt v), .bl (letB v), .bl (textB v), .bl (oU v)]])[h1.length]? = some (.lst [EV.bl (isInt v), .bl (letB v), .bl (textB v), .bl (oU v)]) := aV
  have k2 : aD no1 h1 (h1 ++ [EO.lst [EV.bl (isInt v), .bl (letB v), .bl (textB v), .bl (oU v)]]) := aD.app _
  generalize (h1 ++ [EO.lst [EV.bl (isInt v), .bl (letB v), .bl (textB v), .bl (oU v)]]) = h2 at n1 k2 ⊢
  have k02 := k1.trans k2
  simp only [sZ, sS, aM, lOp, aU, aA, aa, ak, ao, gZ, gS]
  obtain ⟨t2, e2⟩ := (jd.keep k02).ty
  refine ⟨v, rfl, by rw [e2]; rfl, jd.s, fun h3 k3 => ?_⟩
  have k03 := k02.trans k3
  refine ⟨v, rfl, (jd.keep k03).pm, ⟨v, rfl, (jd.keep k03).d, fun h4 k4 => ⟨v, rfl, (jd.keep (k03.trans k4)).d, fun h5 k5 => ⟨by simp [aN], ?_⟩⟩⟩⟩
  have k05 := (k03.trans k4).trans k5
  have n5 := ((k3.trans k4).trans k5).at n1
  refine add_l (l := h1.length) (r := h5.length) (dG n5 _) aV (by simp [aN]) ?_
  refine q _ _ (k05.trans ((aD.app _).trans (aD.app _))) ?_ aV
  have := k05.1
  rw [List.length_append]
  omega
def U (F : Nat → Prop) (h : EH) : Nat → EV → PyData → Prop
  | 0, v, d => LeafD v d
  | n + 1, v, d => LeafD v d ∨ (∃ xs ds, v = .tup xs ∧ xs.length ≤ 1000 ∧ d = .tuple ds ∧ Paired (U F h n) xs ds) ∨ (∃ r xs ds, v = .ref r ∧ ¬ F r ∧ h[r]? = some (.lst xs) ∧ d = .list ds ∧ Paired (U F h n) xs ds) ∨
    (∃ r kvs ps, v = .ref r ∧ ¬ F r ∧ h[r]? = some (.dic kvs) ∧ d = dicD ps ∧ Paired (fun (p : EV × EV) (q : L2.Key × PyData) => p.1 = keyE q.1 ∧ U F h n p.2 q.2) kvs ps)
theorem kW {α β : Type} {R S : α → β → Prop} (f : ∀ a b, R a b → S a b) : ∀ {xs : List α} {ys : List β}, Paired R xs ys → Paired S xs ys
  | _, _, .nil => .nil
  | _, _, .cons a b => .cons (f _ _ a) (kW f b)
theorem prd_mem {α β : Type} {R : α → β → Prop} : ∀ {xs : List α} {ys : List β}, Paired R xs ys → ∀ x ∈ xs, ∃ y ∈ ys, R x y
  | _, _, .nil, x, hx => by cases hx
  | _, _, .cons a b, x, hx => by
    rcases List.mem_cons.mp hx with rfl | hx
    · exact ⟨_, by simp, a⟩
    · obtain ⟨y, hy, r⟩ := prd_mem b x hx
      exact ⟨y, by simp [hy], r⟩
theorem U.leaf {F : Nat → Prop} {h : EH} {n : Nat} {v : EV} {d : PyData} (l : LeafD v d) : U F h n v d := by
  cases n with
  | zero => exact l
  | succ n => exact .inl l
theorem U.map {F G : Nat → Prop} {h h' : EH} (hg : ∀ r, G r → F r) (k : ∀ r o, h[r]? = some o → ¬ F r → h'[r]? = some o) : ∀ (n : Nat) {v : EV} {d : PyData}, U F h n v d → U G h' n v d
  | 0, v, d, z => z
  | n + 1, v, d, z => by
    rcases z with z | ⟨xs, ds, rfl, l, rfl, p⟩ | ⟨r, xs, ds, rfl, f, e, rfl, p⟩ | ⟨r, kvs, ps, rfl, f, e, rfl, p⟩
    · exact .inl z
    · exact .inr (.inl ⟨xs, ds, rfl, l, rfl, p |> kW fun _ _ z => U.map hg k n z⟩)
    · exact .inr (.inr (.inl ⟨r, xs, ds, rfl, fun g => f (hg r g), k _ _ e f, rfl, p |> kW fun _ _ z => U.map hg k n z⟩))
    · exact .inr (.inr (.inr ⟨r, kvs, ps, rfl, fun g => f (hg r g), k _ _ e f, rfl, p |> kW fun _ _ z => ⟨z.1, U.map hg k n z.2⟩⟩))
theorem U.keep {F : Nat → Prop} {h h' : EH} {n : Nat} {v : EV} {d : PyData} (z : U F h n v d) (k : aD F h h') : U F h' n v d := U.map (fun _ g => g) k.2 n z
theorem U.up1 {F : Nat → Prop} {h : EH} : ∀ (n : Nat) {v : EV} {d : PyData}, U F h n v d → U F h (n + 1) v d
  | 0, v, d, z => .inl z
  | n + 1, v, d, z => by
    rcases z with z | ⟨xs, ds, rfl, l, rfl, p⟩ | ⟨r, xs, ds, rfl, f, e, rfl, p⟩ | ⟨r, kvs, ps, rfl, f, e, rfl, p⟩
    · exact .inl z
    · exact .inr (.inl ⟨xs, ds, rfl, l, rfl, p |> kW fun _ _ z => U.up1 n z⟩)
    · exact .inr (.inr (.inl ⟨r, xs, ds, rfl, f, e, rfl, p |> kW fun _ _ z => U.up1 n z⟩))
    · exact .inr (.inr (.inr ⟨r, kvs, ps, rfl, f, e, rfl, p |> kW fun _ _ z => ⟨z.1, U.up1 n z.2⟩⟩))
theorem U.le {F : Nat → Prop} {h : EH} {n m : Nat} (l : n ≤ m) {v : EV} {d : PyData} (z : U F h n v d) : U F h m v d := by
  induction l with
  | refl => exact z
  | step _ ih => exact U.up1 _ ih
theorem U.dat {F : Nat → Prop} {h : EH} : ∀ (n : Nat) {v : EV} {d : PyData}, U F h n v d → DatD h n v d
  | 0, v, d, z => z
  | n + 1, v, d, z => by
    rcases z with z | ⟨xs, ds, rfl, l, rfl, p⟩ | ⟨r, xs, ds, rfl, f, e, rfl, p⟩ | ⟨r, kvs, ps, rfl, f, e, rfl, p⟩
    · exact .inl z
    · exact .inr (.inl ⟨xs, ds, .inl rfl, rfl, p |> kW fun _ _ z => U.dat n z⟩)
    · exact .inr (.inr (.inl ⟨r, xs, ds, rfl, e, rfl, p |> kW fun _ _ z => U.dat n z⟩))
    · exact .inr (.inr (.inr ⟨r, kvs, ps, rfl, e, rfl, p |> kW fun _ _ z => ⟨z.1, U.dat n z.2⟩⟩))
theorem leaf_kn {h : EH} {v : EV} {d : PyData} (z : LeafD v d) : Kn h v := by
  cases v with
  | non => exact kn_nonA
  | bl b => exact kn_blA b
  | int i => exact kn_intA i
  | str s => exact kn_strA s
  | _ => exact z.elim
theorem U.kn {F : Nat → Prop} {h : EH} {n : Nat} {v : EV} {d : PyData} (z : U F h n v d) : Kn h v := by
  cases n with
  | zero => exact leaf_kn z
  | succ n =>
    rcases z with z | ⟨xs, ds, rfl, l, rfl, p⟩ | ⟨r, xs, ds, rfl, f, e, rfl, p⟩ | ⟨r, kvs, ps, rfl, f, e, rfl, p⟩
    · exact leaf_kn z
    · exact kn_tupA _
    · exact kn_lstA e
    · exact kn_dicA e
theorem U.tup {F : Nat → Prop} {h : EH} {n : Nat} {xs : List EV} {d : PyData} (z : U F h n (.tup xs) d) : xs.length ≤ 1000 ∧ ∃ m ds, n = m + 1 ∧ d = .tuple ds ∧ Paired (U F h m) xs ds := by
  cases n with
  | zero => exact False.elim z
  | succ n =>
    rcases z with z | ⟨xs, ds, e, l, rfl, p⟩ | ⟨r, xs, ds, e, _⟩ | ⟨r, kvs, ps, e, _⟩
    · exact False.elim z
    · cases e; exact ⟨l, n, ds, rfl, rfl, p⟩
    · cases e
    · cases e
theorem U.str {F : Nat → Prop} {h : EH} {n : Nat} {s : List Nat} {d : PyData} (z : U F h n (.str s) d) : d = .str (S s) := by
  cases n with
  | zero => exact z
  | succ n =>
    rcases z with z | ⟨xs, ds, e, _⟩ | ⟨r, xs, ds, e, _⟩ | ⟨r, kvs, ps, e, _⟩
    · exact z
    · cases e
    · cases e
    · cases e
theorem U.jd {F : Nat → Prop} {h : EH} {n : Nat} {v : EV} {d : PyData} (z : U F h n v d) (w : d.weight ≤ 100000) : Jd h v := by
  refine ⟨⟨z.kn, fun xs e => ?_⟩, fun s e => ?_⟩
  · subst e
    obtain ⟨l, m, ds, rfl, rfl, p⟩ := z.tup
    refine ⟨l, fun x hx => ?_⟩
    obtain ⟨y, _, r⟩ := prd_mem p x hx
    refine ⟨r.kn, fun ys e => ?_⟩
    subst e
    obtain ⟨l2, m2, ds2, rfl, rfl, p2⟩ := r.tup
    refine ⟨l2, fun z hz => ?_⟩
    obtain ⟨u, _, r2⟩ := prd_mem p2 z hz
    exact r2.kn
  · subst e
    rw [z.str] at w
    simpa [PyData.weight] using w
def shB (k : Nat) (d : PyData) : Prop := d.showable = true ∧ d.leavesShort 45 = true ∧ d.weight ≤ k
def jt (k : Nat) (ds : List PyData) : Prop := PyData.showableAll ds = true ∧ PyData.leavesShortAll 45 ds = true ∧ PyData.weightAll ds ≤ k
theorem shB.more {k j : Nat} {d : PyData} (z : shB k d) (l : k ≤ j) : shB j d := ⟨z.1, z.2.1, Nat.le_trans z.2.2 l⟩
theorem jt.nil {k : Nat} : jt k [] := ⟨by simp [PyData.showableAll], by simp [PyData.leavesShortAll], by simp [PyData.weightAll]⟩
theorem jt.cons {a b : Nat} {d : PyData} {ds : List PyData} (x : shB a d) (y : jt b ds) : jt (a + 1 + b) (d :: ds) := by
  obtain ⟨x1, x2, x3⟩ := x
  obtain ⟨y1, y2, y3⟩ := y
  refine ⟨by simp only [PyData.showableAll, x1, y1, Bool.and_self], by simp only [PyData.leavesShortAll, x2, y2, Bool.and_self], ?_⟩
  simp only [PyData.weightAll]
  omega
theorem jt.tup {k : Nat} {ds : List PyData} (x : jt k ds) : shB k (.tuple ds) := ⟨by simpa only [PyData.showable] using x.1, by simpa only [PyData.leavesShort] using x.2.1, by simpa only [PyData.weight] using x.2.2⟩
theorem jt.lst {k : Nat} {ds : List PyData} (x : jt k ds) : shB k (.list ds) := ⟨by simpa only [PyData.showable] using x.1, by simpa only [PyData.leavesShort] using x.2.1, by simpa only [PyData.weight] using x.2.2⟩
theorem shB.items {k : Nat} {ds : List PyData} (x : shB k (.tuple ds)) : jt k ds := ⟨by simpa only [PyData.showable] using x.1, by simpa only [PyData.leavesShort] using x.2.1, by simpa only [PyData.weight] using x.2.2⟩
theorem shB.fits {k : Nat} {d : PyData} (x : shB k d) (hk : k ≤ 100000) : d.showable = true ∧ d.shown.length ≤ sizeLine := by
  refine ⟨x.1, ?_⟩
  have := PyData.shown_le 45 (by decide) d x.2.1
  have h2 := x.2.2
  have h3 : (45 + 2) * d.weight ≤ 47 * 100000 := Nat.mul_le_mul_left _ (by omega)
  rw [aN]
  omega
def UV (F : Nat → Prop) (n k : Nat) (h : EH) (v : EV) : Prop := ∃ d, U F h n v d ∧ shB k d
theorem UV.keep {F : Nat → Prop} {n k : Nat} {h h' : EH} {v : EV} (z : UV F n k h v) (kp : aD F h h') : UV F n k h' v := let ⟨d, u, s⟩ := z; ⟨d, u.keep kp, s⟩
theorem UV.mono {F G : Nat → Prop} {n m k j : Nat} {h : EH} {v : EV} (z : UV F n k h v) (hg : ∀ r, G r → F r) (l1 : n ≤ m) (l2 : k ≤ j) : UV G m j h v := let ⟨d, u, s⟩ := z; ⟨d, (U.map hg (fun _ _ e _ => e) n u).le l1, s.more l2⟩
theorem UV.jd {F : Nat → Prop} {n k : Nat} {h : EH} {v : EV} (z : UV F n k h v) (l : k ≤ 100000) : Jd h v := let ⟨d, u, s⟩ := z; u.jd (Nat.le_trans s.2.2 l)
theorem UV.repr {F : Nat → Prop} {n k : Nat} {h : EH} {v : EV} (z : UV F n k h v) (l1 : n ≤ 40) (l2 : k ≤ 100000) : ∃ t : List Nat, ∀ h', aD F h h' → ∀ P : EK, P (.str t) h' → reprDD [v] h' P := by
  obtain ⟨d, u, s⟩ := z
  obtain ⟨s1, s2⟩ := s.fits l2
  refine ⟨d.shown.cps.toList, fun h' kp P p => ?_⟩
  have u' := U.dat 40 ((u.keep kp).le l1)
  have leaf : LeafD v d → reprDD [v] h' P := fun z => by
    have : Dat h' 55 v d := by
      cases v with
      | non => cases (show d = .none from z); exact .non
      | bl b => cases (show d = .bool b from z); exact .bl b
      | int i => cases (show d = .int i from z); exact .int i
      | str s => cases (show d = .str (S s) from z); exact .str _
      | _ => exact z.elim
    exact .inr (.inr ⟨d, .el (.pl this), s1, s2, p⟩)
  rcases u' with z | ⟨xs, ds, rfl | rfl, _⟩ | ⟨r, xs, ds, rfl, _⟩ | ⟨r, kvs, ps, rfl, _⟩
  · exact leaf z
  · exact .inl ⟨d, trivial, U.dat 40 ((u.keep kp).le l1), s1, s2, p⟩
  · exact .inl ⟨d, trivial, U.dat 40 ((u.keep kp).le l1), s1, s2, p⟩
  · exact .inl ⟨d, trivial, U.dat 40 ((u.keep kp).le l1), s1, s2, p⟩
  · exact .inl ⟨d, trivial, U.dat 40 ((u.keep kp).le l1), s1, s2, p⟩
def plB (k : Nat) (v : EV) : Bool := match datC 3 v with
  | some d => d.showable && d.leavesShort 45 && decide (d.weight ≤ k)
  | none => false
theorem datC_u {F : Nat → Prop} {h : EH} : ∀ (n : Nat) {v : EV} {d : PyData}, datC n v = some d → U F h n v d
  | 0, v, d, e => datL_ok e
  | n + 1, v, d, e => by
    unfold datC at e
    split at e
    · rename_i xs
      split at e
      · rename_i l
        cases hd : datCs (datC n) xs with
        | none => rw [hd] at e; cases e
        | some ds =>
          rw [hd] at e
          cases e
          exact .inr (.inl ⟨xs, ds, rfl, l, rfl, datCs_ok (R := U F h n) (fun v d z => datC_u n z) hd⟩)
      · cases e
    · exact U.leaf (datL_ok e)
theorem qp {F : Nat → Prop} {k : Nat} {h : EH} {v : EV} (e : plB k v = true) : UV F 3 k h v := by
  unfold plB at e
  cases hd : datC 3 v with
  | none => rw [hd] at e; cases e
  | some d =>
    rw [hd] at e
    simp only [Bool.and_eq_true, decide_eq_true_eq] at e
    exact ⟨d, datC_u 3 hd, e.1.1, e.1.2, e.2⟩
theorem uv_lst {F : Nat → Prop} {h : EH} {k r : Nat} {xs : List EV} {ds : List PyData} (e : h[r]? = some (.lst xs)) (f : ¬ F r) (hd : datCs (datC 2) xs = some ds) (s : shB k (.list ds)) : UV F 3 k h (.ref r) :=
  ⟨.list ds, .inr (.inr (.inl ⟨r, xs, ds, rfl, f, e, rfl, datCs_ok (R := U F h 2) (fun v d z => datC_u 2 z) hd⟩)), s⟩
theorem uv_dic {F : Nat → Prop} {h : EH} {k r : Nat} {kvs : List (EV × EV)} {ps : List (L2.Key × PyData)} (e : h[r]? = some (.dic kvs)) (f : ¬ F r) (p : Paired (fun (p : EV × EV) (q : L2.Key × PyData) => p.1 = keyE q.1 ∧ U F h 2 p.2 q.2) kvs ps) (s : shB k (dicD ps)) : UV F 3 k h (.ref r) :=
  ⟨dicD ps, .inr (.inr (.inr ⟨r, kvs, ps, rfl, f, e, rfl, p⟩)), s⟩
def bQ (ad : Ad) : LSp := fun evs h Q => evs = [] ∧ ∀ r ys h', aD no1 h h' → h.length ≤ r → h'[r]? = some (.lst ys) → ys ≠ [] → ys.length ≤ 100 → (∀ y ∈ ys, UV (fun r => r < h.length) 3 300 h' y) → Q (.ref r) h'
abbrev N__law_plain : List Str := ["_law_found"]
def t__law_plain_7 (ad : Ad) : LS :=
    aM (lOp bG (ao 0) (aU (aa (aG (aa (lC (.str [107])) (ak))) (aa (aG (aa (lC (.str [107])) (aa (lC (.str [100])) (ak)))) (aa (lDisp [((lC (.str [110, 111, 110, 101])), (lC (.int 1)))]) (aa (aU (aa (aU (aa (lC (.str [110, 111, 110, 101])) (ak))) (ak))) (ak)))))))
def t__law_plain_6 (ad : Ad) : LS :=
    aH (bA (lOp bG (ao 0) (aU (aa (aG (aa (aG (aa (lC (.int 1)) (ak))) (aa (aG (aa (lOp powE (lC (.int 10)) (lC (.int 9))) (ak))) (ak)))) (aa (aG (aa (aG (aa (lC (.int 1)) (ak))) (aa (aG (aa (lOp bG (lOp powE (lC (.int 10)) (lC (.int 9))) (lC (.int 1))) (ak))) (ak)))) (aa (aG (aa (aG (ak)) (aa (aG (ak)) (aa (aG (ak)) (ak))))) (aa (aG (aa (aG (ak)) (ak))) (aa (lDisp [((lC (.int 0)), (lC (.int 1)))]) (aa (aG (aa (lC .non) (ak))) (ak))))))))) 0) <| t__law_plain_7 ad
def t__law_plain_5 (ad : Ad) : LS :=
    aH (bA (lOp bG (ao 0) (aU (aa (aG (aa (aG (ak)) (aa (aU (ak)) (ak)))) (ak)))) 0) <| t__law_plain_6 ad
def t__law_plain_4 (ad : Ad) : LS :=
    aH (bA (lOp bG (ao 0) (aU (aa (aG (aa (lC (.str [108, 97, 103])) (aa (lC (.int 2)) (aa (lC (.int 2)) (ak))))) (aa (aG (aa (lC (.int 1)) (aa (lC (.int 3)) (ak)))) (aa (aG (aa (lC (.int 3)) (aa (lC (.int 1)) (ak)))) (aa (aG (aa (lC (.int 0)) (aa (lC (.int 1)) (ak)))) (aa (aG (aa (lC (.int 1)) (aa (lC (.int 4)) (ak)))) (aa (aG (aa (lC (.int 1)) (ak))) (aa (aG (aa (lC (.int 1)) (aa (lC (.int 1)) (aa (lC (.int 1)) (ak))))) (aa (aU (aa (lC (.int 1)) (aa (lC (.int 1)) (ak)))) (aa (aG (aa (lC (.int 1)) (aa (lC (.bl true)) (ak)))) (aa (aG (aa (aG (ak)) (aa (aG (ak)) (ak)))) (ak))))))))))))) 0) <| t__law_plain_5 ad
def t__law_plain_3 (ad : Ad) : LS :=
    aH (bA (lOp bG (ao 0) (aU (aa (aG (aa (lC (.str [116, 111, 116, 97, 108])) (aa (lC (.int 0)) (ak)))) (aa (aG (aa (lC (.str [116, 111, 116, 97, 108])) (aa (lC (.int 60)) (ak)))) (aa (aG (aa (lC (.str [116, 111, 116, 97, 108])) (aa (lC (.int 61)) (ak)))) (aa (aG (aa (lC (.str [116, 111, 116, 97, 108])) (aa (dY (lC (.int 1))) (ak)))) (aa (aG (aa (lC (.str [116, 111, 116, 97, 108])) (aa (lC (.bl true)) (ak)))) (aa (aG (aa (lC (.str [108, 97, 103])) (aa (lC (.bl true)) (ak)))) (ak))))))))) 0) <| t__law_plain_4 ad
def t__law_plain_2 (ad : Ad) : LS :=
    aH (bA (lOp bG (ao 0) (aU (aa (aG (aa (lC (.str [110, 111, 110, 101])) (ak))) (aa (aU (aa (lC (.str [110, 111, 110, 101])) (ak))) (aa (aG (aa (lC (.str [110, 111, 110, 101])) (aa (lC (.int 1)) (ak)))) (aa (aG (aa (lC (.str [108, 97, 103])) (ak))) (aa (aG (aa (lC (.str [108, 97, 103])) (aa (lC (.int 1)) (ak)))) (aa (aG (aa (lC (.str [108, 97, 103])) (aa (lC (.int 4)) (ak)))) (aa (aG (aa (lC (.str [108, 97, 103])) (aa (lC (.int 5)) (ak)))) (aa (aG (aa (lC (.str [108, 97, 103])) (aa (lC (.int 0)) (ak)))) (ak))))))))))) 0) <| t__law_plain_3 ad
def t__law_plain_1 (ad : Ad) : LS :=
    aH (bA (lOp bG (ao 0) (aU (aa (lC (.str [107, 100, 112, 120])) (aa (lC (.str [112, 100, 10])) (aa (lC (.str [107, 32, 100])) (aa (lC (.str [108, 101, 102, 116])) (aa (lC (.str [114, 105, 103, 104, 116])) (aa (lC (.str [76, 101, 102, 116])) (aa (lC (.str [108, 101, 102, 116, 115])) (aa (lC (.str [110, 111, 110, 101])) (aa (lC (.str [108, 97, 103])) (aa (lC (.str [116, 111, 116, 97, 108])) (aa (aG (ak)) (aa (aU (ak)) (aa (lDnew) (aa (aG (aa (lC (.int 0)) (ak))) (ak))))))))))))))))) 0) <| t__law_plain_2 ad
def t__law_plain_0 (ad : Ad) : LS :=
    aH (bA (aU (aa (lC .non) (aa (lC (.bl true)) (aa (lC (.bl false)) (aa (lC (.int 0)) (aa (lC (.int 1)) (aa (lC (.int 3)) (aa (lC (.int 4)) (aa (dY (lC (.int 1))) (aa (lOp powE (lC (.int 10)) (lC (.int 9))) (aa (lOp bG (lOp powE (lC (.int 10)) (lC (.int 9))) (lC (.int 1))) (aa (lOp powE (lC (.int 10)) (lC (.int 39))) (aa (dY (lOp powE (lC (.int 10)) (lC (.int 39)))) (aa (lC (.str [])) (aa (lC (.str [32])) (aa (lC (.str [107])) (aa (lC (.str [107, 100, 112])) (aa (lC (.str [75])) (ak))))))))))))))))))) 0) <| t__law_plain_1 ad
def t__law_plain (ad : Ad) : LS :=
    aH (bA (aU (aa (lC .non) (aa (lC (.bl true)) (aa (lC (.bl false)) (aa (lC (.int 0)) (aa (lC (.int 1)) (aa (lC (.int 3)) (aa (lC (.int 4)) (aa (dY (lC (.int 1))) (aa (lOp powE (lC (.int 10)) (lC (.int 9))) (aa (lOp bG (lOp powE (lC (.int 10)) (lC (.int 9))) (lC (.int 1))) (aa (lOp powE (lC (.int 10)) (lC (.int 39))) (aa (dY (lOp powE (lC (.int 10)) (lC (.int 39)))) (aa (lC (.str [])) (aa (lC (.str [32])) (aa (lC (.str [107])) (aa (lC (.str [107, 100, 112])) (aa (lC (.str [75])) (ak))))))))))))))))))) 0) <|
    aH (bA (lOp bG (ao 0) (aU (aa (lC (.str [107, 100, 112, 120])) (aa (lC (.str [112, 100, 10])) (aa (lC (.str [107, 32, 100])) (aa (lC (.str [108, 101, 102, 116])) (aa (lC (.str [114, 105, 103, 104, 116])) (aa (lC (.str [76, 101, 102, 116])) (aa (lC (.str [108, 101, 102, 116, 115])) (aa (lC (.str [110, 111, 110, 101])) (aa (lC (.str [108, 97, 103])) (aa (lC (.str [116, 111, 116, 97, 108])) (aa (aG (ak)) (aa (aU (ak)) (aa (lDnew) (aa (aG (aa (lC (.int 0)) (ak))) (ak))))))))))))))))) 0) <|
    aH (bA (lOp bG (ao 0) (aU (aa (aG (aa (lC (.str [110, 111, 110, 101])) (ak))) (aa (aU (aa (lC (.str [110, 111, 110, 101])) (ak))) (aa (aG (aa (lC (.str [110, 111, 110, 101])) (aa (lC (.int 1)) (ak)))) (aa (aG (aa (lC (.str [108, 97, 103])) (ak))) (aa (aG (aa (lC (.str [108, 97, 103])) (aa (lC (.int 1)) (ak)))) (aa (aG (aa (lC (.str [108, 97, 103])) (aa (lC (.int 4)) (ak)))) (aa (aG (aa (lC (.str [108, 97, 103])) (aa (lC (.int 5)) (ak)))) (aa (aG (aa (lC (.str [108, 97, 103])) (aa (lC (.int 0)) (ak)))) (ak))))))))))) 0) <|
    aH (bA (lOp bG (ao 0) (aU (aa (aG (aa (lC (.str [116, 111, 116, 97, 108])) (aa (lC (.int 0)) (ak)))) (aa (aG (aa (lC (.str [116, 111, 116, 97, 108])) (aa (lC (.int 60)) (ak)))) (aa (aG (aa (lC (.str [116, 111, 116, 97, 108])) (aa (lC (.int 61)) (ak)))) (aa (aG (aa (lC (.str [116, 111, 116, 97, 108])) (aa (dY (lC (.int 1))) (ak)))) (aa (aG (aa (lC (.str [116, 111, 116, 97, 108])) (aa (lC (.bl true)) (ak)))) (aa (aG (aa (lC (.str [108, 97, 103])) (aa (lC (.bl true)) (ak)))) (ak))))))))) 0) <|
    aH (bA (lOp bG (ao 0) (aU (aa (aG (aa (lC (.str [108, 97, 103])) (aa (lC (.int 2)) (aa (lC (.int 2)) (ak))))) (aa (aG (aa (lC (.int 1)) (aa (lC (.int 3)) (ak)))) (aa (aG (aa (lC (.int 3)) (aa (lC (.int 1)) (ak)))) (aa (aG (aa (lC (.int 0)) (aa (lC (.int 1)) (ak)))) (aa (aG (aa (lC (.int 1)) (aa (lC (.int 4)) (ak)))) (aa (aG (aa (lC (.int 1)) (ak))) (aa (aG (aa (lC (.int 1)) (aa (lC (.int 1)) (aa (lC (.int 1)) (ak))))) (aa (aU (aa (lC (.int 1)) (aa (lC (.int 1)) (ak)))) (aa (aG (aa (lC (.int 1)) (aa (lC (.bl true)) (ak)))) (aa (aG (aa (aG (ak)) (aa (aG (ak)) (ak)))) (ak))))))))))))) 0) <|
    aH (bA (lOp bG (ao 0) (aU (aa (aG (aa (aG (ak)) (aa (aU (ak)) (ak)))) (ak)))) 0) <|
    aH (bA (lOp bG (ao 0) (aU (aa (aG (aa (aG (aa (lC (.int 1)) (ak))) (aa (aG (aa (lOp powE (lC (.int 10)) (lC (.int 9))) (ak))) (ak)))) (aa (aG (aa (aG (aa (lC (.int 1)) (ak))) (aa (aG (aa (lOp bG (lOp powE (lC (.int 10)) (lC (.int 9))) (lC (.int 1))) (ak))) (ak)))) (aa (aG (aa (aG (ak)) (aa (aG (ak)) (aa (aG (ak)) (ak))))) (aa (aG (aa (aG (ak)) (ak))) (aa (lDisp [((lC (.int 0)), (lC (.int 1)))]) (aa (aG (aa (lC .non) (ak))) (ak))))))))) 0) <|
    aM (lOp bG (ao 0) (aU (aa (aG (aa (lC (.str [107])) (ak))) (aa (aG (aa (lC (.str [107])) (aa (lC (.str [100])) (ak)))) (aa (lDisp [((lC (.str [110, 111, 110, 101])), (lC (.int 1)))]) (aa (aU (aa (aU (aa (lC (.str [110, 111, 110, 101])) (ak))) (ak))) (ak)))))))
theorem len__law_plain (ad : Ad) (evs : List EV) (h : EH) (Q : EK) (q : bQ ad evs h Q) : evs.length = ([] : List String).length := by
  obtain ⟨rfl, _⟩ := q; rfl
theorem all_pl {F : Nat → Prop} {h : EH} {xs : List EV} (e : xs.all (plB 300) = true) : ∀ y ∈ xs, UV F 3 300 h y := fun y hy => qp (List.all_eq_true.mp e y hy)
theorem pure__law_plain (ad : Ad) (evs : List EV) (h : EH) (Q : EK) (q : bQ ad evs h Q) : t__law_plain ad (aO Q) (bF N__law_plain evs) h := by
  obtain ⟨rfl, q⟩ := q
  have sz : sizeLine = 16777216 := aN
  show t__law_plain_0 ad (aO Q) [none] h
  let F : Nat → Prop := fun r => r < h.length
  have fr : ∀ r, h.length ≤ r → ¬ F r := fun r l z => by have z : r < h.length := z; omega
  have step : ∀ (r1 : Nat) (L1 L2 : List EV) (h1 : EH) (P : EK), aD no1 h h1 → h1[r1]? = some (.lst L1) → L1.length ≤ 80 → L2.length ≤ 20 → (∀ y ∈ L1, UV F 3 300 h1 y) → (∀ y ∈ L2, UV F 3 300 h1 y) →
      (∀ (r2 : Nat) (h2 : EH), aD no1 h h2 → h.length ≤ r2 → h2[r2]? = some (.lst (L1 ++ L2)) → (∀ y ∈ L1 ++ L2, UV F 3 300 h2 y) → P (.ref r2) h2) →
      bG (.ref r1) (.ref h1.length) (h1 ++ [EO.lst L2]) P := by
    intro r1 L1 L2 h1 P k1 e1 l1 l2 u1 u2 p
    have l01 := k1.1
    refine add_l (dG e1 _) aV (by omega) (p _ _ (k1.trans ((aD.app _).trans (aD.app _))) (by rw [List.length_append]; omega) aV fun y hy => ?_)
    have kk : aD F h1 (h1 ++ [EO.lst L2] ++ [EO.lst (L1 ++ L2)]) := (aD.app _).trans (aD.app _)
    rcases List.mem_append.mp hy with hy | hy
    · exact (u1 y hy).keep kk
    · exact (u2 y hy).keep kk
  unfold t__law_plain_0
  rw [aH, bA]
  simp only [aU, aa, ak, lC, dY, lOp]
  refine pow_i (by unfold CPow; decide) ?_
  refine pow_i (by unfold CPow; decide) ?_
  refine pD ?_
  refine pow_i (by unfold CPow; decide) ?_
  refine pow_i (by unfold CPow; decide) ?_
  dsimp only
  refine ⟨by simp [aN], ?_⟩
  have start : ∃ L1 : List EV, L1.length = 17 ∧ (∀ y ∈ L1, UV F 3 300 (h ++ [EO.lst L1]) y) ∧ L1 = [EV.non, EV.bl true, EV.bl false, EV.int 0, EV.int 1, EV.int 3, EV.int 4, EV.int (-1), EV.int (10 ^ Int.toNat 9), EV.int (10 ^ Int.toNat 9 + 1), EV.int (10 ^ Int.toNat 39), EV.int (-(10 ^ Int.toNat 39)), EV.str [], EV.str [32], EV.str [107], EV.str [107, 100, 112], EV.str [75]] := ⟨_, rfl, all_pl (by decide +kernel), rfl⟩
  obtain ⟨L1, l1, u1, e1⟩ := start
  rw [← e1]
  have n1 : (h ++ [EO.lst L1])[h.length]? = some (.lst L1) := aV
  have k1 : aD no1 h (h ++ [EO.lst L1]) := aD.app _
  generalize (h ++ [EO.lst L1]) = h1 at u1 n1 k1 ⊢
  generalize hr1 : h.length = r1 at n1 ⊢
  clear e1
  simp only [sZ]
  unfold t__law_plain_1
  try dsimp only
  rw [aH, bA]
  simp only [lOp, ao, aU, aG, lDnew, aa, ak, lC, gZ]
  refine ⟨by simp [aN], by simp [aN], by simp [aN], by simp [aN], ?_⟩
  have k2 : aD no1 h1 (h1 ++ [EO.lst []] ++ [EO.dic []]) := (aD.app _).trans (aD.app _)
  have f1 : (h1 ++ [EO.lst []] ++ [EO.dic []])[h1.length]? = some (.lst []) := dG aV _
  have f2 : (h1 ++ [EO.lst []] ++ [EO.dic []])[(h1 ++ [EO.lst []]).length]? = some (.dic []) := aV
  have m1 : ¬ F h1.length := fr _ k1.1
  have m2 : ¬ F (h1 ++ [EO.lst []]).length := fr _ (by have := k1.1; rw [List.length_append]; omega)
  generalize h1.length = a1 at f1 m1 ⊢
  generalize (h1 ++ [EO.lst []]).length = a2 at f2 m2 ⊢
  generalize (h1 ++ [EO.lst []] ++ [EO.dic []]) = h2 at k2 f1 f2 ⊢
  have L2u : ∀ y ∈ [EV.str [107, 100, 112, 120], .str [112, 100, 10], .str [107, 32, 100], .str [108, 101, 102, 116], .str [114, 105, 103, 104, 116], .str [76, 101, 102, 116], .str [108, 101, 102, 116, 115], .str [110, 111, 110, 101], .str [108, 97, 103], .str [116, 111, 116, 97, 108], .tup [], .ref a1, .ref a2, .tup [.int 0]], UV F 3 300 h2 y := by
    have c1 : ∀ y ∈ [EV.str [107, 100, 112, 120], .str [112, 100, 10], .str [107, 32, 100], .str [108, 101, 102, 116], .str [114, 105, 103, 104, 116], .str [76, 101, 102, 116], .str [108, 101, 102, 116, 115], .str [110, 111, 110, 101], .str [108, 97, 103], .str [116, 111, 116, 97, 108], .tup [], .tup [.int 0]], UV F 3 300 h2 y := all_pl (by decide +kernel)
    intro y hy
    by_cases c2 : y = .ref a1
    · subst c2; exact uv_lst (ds := []) f1 m1 rfl ⟨by decide +kernel, by decide +kernel, by decide +kernel⟩
    by_cases c3 : y = .ref a2
    · subst c3; exact uv_dic (ps := []) f2 m2 .nil ⟨by decide +kernel, by decide +kernel, by decide +kernel⟩
    refine c1 y ?_
    simp only [List.mem_cons, List.not_mem_nil, or_false, c2, c3, false_or] at hy ⊢
    exact hy
  refine step r1 L1 _ h2 _ (k1.trans k2) (k2.at n1) (by omega) (by simp) (fun y hy => (u1 y hy).keep k2.all) L2u fun r3 h3 k3 lr3 n3 u3 => ?_
  replace l1 : (L1 ++ [EV.str [107, 100, 112, 120], .str [112, 100, 10], .str [107, 32, 100], .str [108, 101, 102, 116], .str [114, 105, 103, 104, 116], .str [76, 101, 102, 116], .str [108, 101, 102, 116, 115], .str [110, 111, 110, 101], .str [108, 97, 103], .str [116, 111, 116, 97, 108], .tup [], .ref a1, .ref a2, .tup [.int 0]]).length = 31 := by rw [List.length_append, l1]; rfl
  generalize (L1 ++ [EV.str [107, 100, 112, 120], .str [112, 100, 10], .str [107, 32, 100], .str [108, 101, 102, 116], .str [114, 105, 103, 104, 116], .str [76, 101, 102, 116], .str [108, 101, 102, 116, 115], .str [110, 111, 110, 101], .str [108, 97, 103], .str [116, 111, 116, 97, 108], .tup [], .ref a1, .ref a2, .tup [.int 0]]) = L3 at l1 n3 u3
  clear L2u u1 n1 k1 k2 f1 f2 m1 m2
  simp only [sZ]
  unfold t__law_plain_2
  try dsimp only
  rw [aH, bA]
  simp only [lOp, ao, aU, aG, lDnew, aa, ak, lC, gZ]
  refine ⟨by simp [aN], by simp [aN], by simp [aN], by simp [aN], by simp [aN], by simp [aN], by simp [aN], by simp [aN], by simp [aN], ?_⟩
  have k4 : aD no1 h3 (h3 ++ [EO.lst [EV.str [110, 111, 110, 101]]]) := aD.app _
  have f1 : (h3 ++ [EO.lst [EV.str [110, 111, 110, 101]]])[h3.length]? = some (.lst [EV.str [110, 111, 110, 101]]) := aV
  have m1 : ¬ F h3.length := fr _ k3.1
  generalize h3.length = a1 at f1 m1 ⊢
  generalize (h3 ++ [EO.lst [EV.str [110, 111, 110, 101]]]) = h4 at k4 f1 ⊢
  have L2u : ∀ y ∈ [EV.tup [.str [110, 111, 110, 101]], .ref a1, .tup [.str [110, 111, 110, 101], .int 1], .tup [.str [108, 97, 103]], .tup [.str [108, 97, 103], .int 1], .tup [.str [108, 97, 103], .int 4], .tup [.str [108, 97, 103], .int 5], .tup [.str [108, 97, 103], .int 0]], UV F 3 300 h4 y := by
    have c1 : ∀ y ∈ [EV.tup [.str [110, 111, 110, 101]], .tup [.str [110, 111, 110, 101], .int 1], .tup [.str [108, 97, 103]], .tup [.str [108, 97, 103], .int 1], .tup [.str [108, 97, 103], .int 4], .tup [.str [108, 97, 103], .int 5], .tup [.str [108, 97, 103], .int 0]], UV F 3 300 h4 y := all_pl (by decide +kernel)
    intro y hy
    by_cases c2 : y = .ref a1
    · subst c2; exact uv_lst (ds := [.str (S [110, 111, 110, 101])]) f1 m1 rfl ⟨by decide +kernel, by decide +kernel, by decide +kernel⟩
    refine c1 y ?_
    simp only [List.mem_cons, List.not_mem_nil, or_false, c2, false_or] at hy ⊢
    exact hy
  refine step r3 L3 _ h4 _ (k3.trans k4) (k4.at n3) (by omega) (by simp) (fun y hy => (u3 y hy).keep k4.all) L2u fun r5 h5 k5 lr5 n5 u5 => ?_
  replace l1 : (L3 ++ [EV.tup [.str [110, 111, 110, 101]], .ref a1, .tup [.str [110, 111, 110, 101], .int 1], .tup [.str [108, 97, 103]], .tup [.str [108, 97, 103], .int 1], .tup [.str [108, 97, 103], .int 4], .tup [.str [108, 97, 103], .int 5], .tup [.str [108, 97, 103], .int 0]]).length = 39 := by rw [List.length_append, l1]; rfl
  generalize (L3 ++ [EV.tup [.str [110, 111, 110, 101]], .ref a1, .tup [.str [110, 111, 110, 101], .int 1], .tup [.str [108, 97, 103]], .tup [.str [108, 97, 103], .int 1], .tup [.str [108, 97, 103], .int 4], .tup [.str [108, 97, 103], .int 5], .tup [.str [108, 97, 103], .int 0]]) = L5 at l1 n5 u5
  clear L2u u3 n3 k3 k4 f1 m1
  simp only [sZ]
  unfold t__law_plain_3
  try dsimp only
  rw [aH, bA]
  simp only [lOp, ao, aU, aG, dY, aa, ak, lC, gZ]
  refine ⟨by simp [aN], by simp [aN], by simp [aN], by simp [aN], by simp [aN], by simp [aN], by simp [aN], ?_⟩
  refine step r5 L5 _ h5 _ k5 n5 (by omega) (by decide) u5 (all_pl (by decide +kernel)) fun r6 h6 k6 lr6 n6 u6 => ?_
  replace l1 : (L5 ++ [EV.tup [.str [116, 111, 116, 97, 108], .int 0], .tup [.str [116, 111, 116, 97, 108], .int 60], .tup [.str [116, 111, 116, 97, 108], .int 61], .tup [.str [116, 111, 116, 97, 108], .int (-1)], .tup [.str [116, 111, 116, 97, 108], .bl true], .tup [.str [108, 97, 103], .bl true]]).length = 45 := by rw [List.length_append, l1]; rfl
  generalize (L5 ++ [EV.tup [.str [116, 111, 116, 97, 108], .int 0], .tup [.str [116, 111, 116, 97, 108], .int 60], .tup [.str [116, 111, 116, 97, 108], .int 61], .tup [.str [116, 111, 116, 97, 108], .int (-1)], .tup [.str [116, 111, 116, 97, 108], .bl true], .tup [.str [108, 97, 103], .bl true]]) = L6 at l1 n6 u6
  clear u5 n5 k5
  simp only [sZ]
  unfold t__law_plain_4
  try dsimp only
  rw [aH, bA]
  simp only [lOp, ao, aU, aG, dY, aa, ak, lC, gZ]
  refine ⟨by simp [aN], by simp [aN], by simp [aN], by simp [aN], by simp [aN], by simp [aN], by simp [aN], by simp [aN], by simp [aN], by simp [aN], by simp [aN], by simp [aN], by simp [aN], ?_⟩
  have k7 : aD no1 h6 (h6 ++ [EO.lst [EV.int 1, EV.int 1]]) := aD.app _
  have f1 : (h6 ++ [EO.lst [EV.int 1, EV.int 1]])[h6.length]? = some (.lst [EV.int 1, EV.int 1]) := aV
  have m1 : ¬ F h6.length := fr _ k6.1
  generalize h6.length = a3 at f1 m1 ⊢
  generalize (h6 ++ [EO.lst [EV.int 1, EV.int 1]]) = h7 at k7 f1 ⊢
  have L2u : ∀ y ∈ [EV.tup [.str [108, 97, 103], .int 2, .int 2], .tup [.int 1, .int 3], .tup [.int 3, .int 1], .tup [.int 0, .int 1], .tup [.int 1, .int 4], .tup [.int 1], .tup [.int 1, .int 1, .int 1], .ref a3, .tup [.int 1, .bl true], .tup [.tup [], .tup []]], UV F 3 300 h7 y := by
    have c1 : ∀ y ∈ [EV.tup [.str [108, 97, 103], .int 2, .int 2], .tup [.int 1, .int 3], .tup [.int 3, .int 1], .tup [.int 0, .int 1], .tup [.int 1, .int 4], .tup [.int 1], .tup [.int 1, .int 1, .int 1], .tup [.int 1, .bl true], .tup [.tup [], .tup []]], UV F 3 300 h7 y := all_pl (by decide +kernel)
    intro y hy
    by_cases c2 : y = .ref a3
    · subst c2; exact uv_lst (ds := [.int 1, .int 1]) f1 m1 rfl ⟨by decide +kernel, by decide +kernel, by decide +kernel⟩
    refine c1 y ?_
    simp only [List.mem_cons, List.not_mem_nil, or_false, c2, false_or] at hy ⊢
    exact hy
  refine step r6 L6 _ h7 _ (k6.trans k7) (k7.at n6) (by omega) (by simp) (fun y hy => (u6 y hy).keep k7.all) L2u fun r8 h8 k8 lr8 n8 u8 => ?_
  replace l1 : (L6 ++ [EV.tup [.str [108, 97, 103], .int 2, .int 2], .tup [.int 1, .int 3], .tup [.int 3, .int 1], .tup [.int 0, .int 1], .tup [.int 1, .int 4], .tup [.int 1], .tup [.int 1, .int 1, .int 1], .ref a3, .tup [.int 1, .bl true], .tup [.tup [], .tup []]]).length = 55 := by rw [List.length_append, l1]; rfl
  generalize (L6 ++ [EV.tup [.str [108, 97, 103], .int 2, .int 2], .tup [.int 1, .int 3], .tup [.int 3, .int 1], .tup [.int 0, .int 1], .tup [.int 1, .int 4], .tup [.int 1], .tup [.int 1, .int 1, .int 1], .ref a3, .tup [.int 1, .bl true], .tup [.tup [], .tup []]]) = L8 at l1 n8 u8
  clear L2u u6 n6 k6 k7 f1 m1
  simp only [sZ]
  unfold t__law_plain_5
  try dsimp only
  rw [aH, bA]
  simp only [lOp, ao, aU, aG, dY, aa, ak, lC, gZ]
  refine ⟨by simp [aN], by simp [aN], by simp [aN], by simp [aN], ?_⟩
  have k9 : aD no1 h8 (h8 ++ [EO.lst []]) := aD.app _
  have f1 : (h8 ++ [EO.lst []])[h8.length]? = some (.lst []) := aV
  have m1 : ¬ F h8.length := fr _ k8.1
  generalize h8.length = a4 at f1 m1 ⊢
  generalize (h8 ++ [EO.lst []]) = h9 at k9 f1 ⊢
  have L2u : ∀ y ∈ [EV.tup [.tup [], .ref a4]], UV F 3 300 h9 y := by
    intro y hy
    rw [List.mem_singleton.mp hy]
    exact ⟨.tuple [.tuple [], .list []], .inr (.inl ⟨_, _, rfl, by simp, rfl, .cons (datC_u 2 rfl) (.cons (.inr (.inr (.inl ⟨a4, [], [], rfl, m1, f1, rfl, .nil⟩))) .nil)⟩), ⟨by decide +kernel, by decide +kernel, by decide +kernel⟩⟩
  refine step r8 L8 _ h9 _ (k8.trans k9) (k9.at n8) (by omega) (by simp) (fun y hy => (u8 y hy).keep k9.all) L2u fun r10 h10 k10 lr10 n10 u10 => ?_
  replace l1 : (L8 ++ [EV.tup [.tup [], .ref a4]]).length = 56 := by rw [List.length_append, l1]; rfl
  generalize (L8 ++ [EV.tup [.tup [], .ref a4]]) = L10 at l1 n10 u10
  clear L2u u8 n8 k8 k9 f1 m1
  simp only [sZ]
  unfold t__law_plain_6
  try dsimp only
  rw [aH, bA]
  simp only [lOp, ao, aU, aG, dY, lDisp, lPairs, aa, ak, lC, gZ]
  refine ⟨by simp [aN], ?_⟩
  refine pow_i (by unfold CPow; decide) ?_
  refine ⟨by simp [aN], by simp [aN], by simp [aN], pow_i (by unfold CPow; decide) ?_⟩
  refine pD ⟨by simp [aN], by simp [aN], by simp [aN], by simp [aN], by simp [aN], by simp [aN], by simp [aN], by simp [aN], aV, fun p hp => ?_, by simp, by simp [aN], by simp [aN], ?_⟩
  · rw [List.mem_singleton.mp hp]; trivial
  rw [qd]
  have ed : dAll [(EV.int 0, EV.int 1)] = [(EV.int 0, EV.int 1)] := by simp [dAll, dPut, dHas, dGet]
  rw [ed]
  have k11 : aD no1 h10 (h10 ++ [EO.dic [(EV.int 0, EV.int 1)]]) := aD.app _
  have f1 : (h10 ++ [EO.dic [(EV.int 0, EV.int 1)]])[h10.length]? = some (.dic [(EV.int 0, EV.int 1)]) := aV
  have m1 : ¬ F h10.length := fr _ k10.1
  generalize h10.length = a5 at f1 m1 ⊢
  generalize (h10 ++ [EO.dic [(EV.int 0, EV.int 1)]]) = h11 at k11 f1 ⊢
  have L2u : ∀ y ∈ [EV.tup [.tup [.int 1], .tup [.int (10 ^ Int.toNat 9)]], .tup [.tup [.int 1], .tup [.int (10 ^ Int.toNat 9 + 1)]], .tup [.tup [], .tup [], .tup []], .tup [.tup []], .ref a5, .tup [.non]], UV F 3 300 h11 y := by
    have c1 : ∀ y ∈ [EV.tup [.tup [.int 1], .tup [.int (10 ^ Int.toNat 9)]], .tup [.tup [.int 1], .tup [.int (10 ^ Int.toNat 9 + 1)]], .tup [.tup [], .tup [], .tup []], .tup [.tup []], .tup [.non]], UV F 3 300 h11 y := all_pl (by decide +kernel)
    intro y hy
    by_cases c2 : y = .ref a5
    · subst c2; exact uv_dic (ps := [(.inl 0, .int 1)]) f1 m1 (.cons ⟨rfl, U.leaf rfl⟩ .nil) ⟨by decide +kernel, by decide +kernel, by decide +kernel⟩
    refine c1 y ?_
    simp only [List.mem_cons, List.not_mem_nil, or_false, c2, false_or] at hy ⊢
    exact hy
  refine step r10 L10 _ h11 _ (k10.trans k11) (k11.at n10) (by omega) (by simp) (fun y hy => (u10 y hy).keep k11.all) L2u fun r12 h12 k12 lr12 n12 u12 => ?_
  replace l1 : (L10 ++ [EV.tup [.tup [.int 1], .tup [.int (10 ^ Int.toNat 9)]], .tup [.tup [.int 1], .tup [.int (10 ^ Int.toNat 9 + 1)]], .tup [.tup [], .tup [], .tup []], .tup [.tup []], .ref a5, .tup [.non]]).length = 62 := by rw [List.length_append, l1]; rfl
  generalize (L10 ++ [EV.tup [.tup [.int 1], .tup [.int (10 ^ Int.toNat 9)]], .tup [.tup [.int 1], .tup [.int (10 ^ Int.toNat 9 + 1)]], .tup [.tup [], .tup [], .tup []], .tup [.tup []], .ref a5, .tup [.non]]) = L12 at l1 n12 u12
  clear L2u u10 n10 k10 k11 f1 m1 ed
  simp only [sZ]
  unfold t__law_plain_7
  try dsimp only
  simp only [aM, lOp, ao, aU, aG, dY, lDisp, lPairs, aa, ak, lC, gZ]
  refine ⟨by simp [aN], by simp [aN], aV, fun p hp => ?_, by simp, by simp [aN], by simp [aN], by simp [aN], ?_⟩
  · rw [List.mem_singleton.mp hp]; trivial
  rw [qd]
  have ed : dAll [(EV.str [110, 111, 110, 101], EV.int 1)] = [(EV.str [110, 111, 110, 101], EV.int 1)] := by simp [dAll, dPut, dHas, dGet]
  rw [ed]
  have k13 : aD no1 h12 (h12 ++ [EO.dic [(EV.str [110, 111, 110, 101], EV.int 1)]] ++ [EO.lst [EV.str [110, 111, 110, 101]]] ++ [EO.lst [EV.ref (h12 ++ [EO.dic [(EV.str [110, 111, 110, 101], EV.int 1)]]).length]]) := ((aD.app _).trans (aD.app _)).trans (aD.app _)
  have f1 : (h12 ++ [EO.dic [(EV.str [110, 111, 110, 101], EV.int 1)]] ++ [EO.lst [EV.str [110, 111, 110, 101]]] ++ [EO.lst [EV.ref (h12 ++ [EO.dic [(EV.str [110, 111, 110, 101], EV.int 1)]]).length]])[h12.length]? = some (.dic [(EV.str [110, 111, 110, 101], EV.int 1)]) := dG (dG aV _) _
  have f2 : (h12 ++ [EO.dic [(EV.str [110, 111, 110, 101], EV.int 1)]] ++ [EO.lst [EV.str [110, 111, 110, 101]]] ++ [EO.lst [EV.ref (h12 ++ [EO.dic [(EV.str [110, 111, 110, 101], EV.int 1)]]).length]])[(h12 ++ [EO.dic [(EV.str [110, 111, 110, 101], EV.int 1)]]).length]? = some (.lst [EV.str [110, 111, 110, 101]]) := dG aV _
  have f3 : (h12 ++ [EO.dic [(EV.str [110, 111, 110, 101], EV.int 1)]] ++ [EO.lst [EV.str [110, 111, 110, 101]]] ++ [EO.lst [EV.ref (h12 ++ [EO.dic [(EV.str [110, 111, 110, 101], EV.int 1)]]).length]])[(h12 ++ [EO.dic [(EV.str [110, 111, 110, 101], EV.int 1)]] ++ [EO.lst [EV.str [110, 111, 110, 101]]]).length]? = some (.lst [EV.ref (h12 ++ [EO.dic [(EV.str [110, 111, 110, 101], EV.int 1)]]).length]) := aV
  have g12 := k12.1
  have m1 : ¬ F h12.length := fr _ g12
  have m2 : ¬ F (h12 ++ [EO.dic [(EV.str [110, 111, 110, 101], EV.int 1)]]).length := fr _ (by rw [List.length_append]; omega)
  have m3 : ¬ F (h12 ++ [EO.dic [(EV.str [110, 111, 110, 101], EV.int 1)]] ++ [EO.lst [EV.str [110, 111, 110, 101]]]).length := fr _ (by rw [List.length_append, List.length_append]; omega)
  generalize (h12 ++ [EO.dic [(EV.str [110, 111, 110, 101], EV.int 1)]] ++ [EO.lst [EV.str [110, 111, 110, 101]]]).length = b3 at f3 m3 ⊢
  generalize hb2 : (h12 ++ [EO.dic [(EV.str [110, 111, 110, 101], EV.int 1)]]).length = b2 at f1 f2 f3 m2 k13 ⊢
  generalize h12.length = b1 at f1 m1 ⊢
  generalize (h12 ++ [EO.dic [(EV.str [110, 111, 110, 101], EV.int 1)]] ++ [EO.lst [EV.str [110, 111, 110, 101]]] ++ [EO.lst [EV.ref b2]]) = h13 at k13 f1 f2 f3 ⊢
  have L2u : ∀ y ∈ [EV.tup [.str [107]], .tup [.str [107], .str [100]], .ref b1, .ref b3], UV F 3 300 h13 y := by
    intro y hy
    simp only [List.mem_cons, List.not_mem_nil, or_false] at hy
    rcases hy with rfl | rfl | rfl | rfl
    · exact qp (by decide +kernel)
    · exact qp (by decide +kernel)
    · exact uv_dic (ps := [(.inr (S [110, 111, 110, 101]), .int 1)]) f1 m1 (.cons ⟨rfl, U.leaf rfl⟩ .nil) ⟨by decide +kernel, by decide +kernel, by decide +kernel⟩
    · exact ⟨.list [.list [.str (S [110, 111, 110, 101])]], .inr (.inr (.inl ⟨b3, _, _, rfl, m3, f3, rfl, .cons (.inr (.inr (.inl ⟨b2, _, _, rfl, m2, f2, rfl, .cons (U.leaf rfl) .nil⟩))) .nil⟩)), ⟨by decide +kernel, by decide +kernel, by decide +kernel⟩⟩
  refine step r12 L12 _ h13 _ (k12.trans k13) (k13.at n12) (by omega) (by simp) (fun y hy => (u12 y hy).keep k13.all) L2u fun r14 h14 k14 lr14 n14 u14 => ?_
  exact q r14 _ h14 k14 lr14 n14 (by simp) (by rw [List.length_append, l1]; simp) u14
theorem sh_int {i : Int} (hi : i.natAbs < 10 ^ 12) : shB 41 (.int i) := by
  have z : DS [] 5 41 (.int i) (.int i) := DS.int hi (Nat.le_refl _)
  refine ⟨z.2.1, ?_, z.2.2.2⟩
  have := z.2.2.1
  simp only [PyData.leavesShort, decide_eq_true_eq] at this ⊢
  omega
theorem sh_str {s : List Nat} (hs : ∀ c ∈ s, c < 16 ^ 8) : shB s.length (.str (S s)) := by
  have z : DS [] 5 s.length (.str s) (.str (S s)) := DS.str hs (Nat.le_refl _)
  refine ⟨z.2.1, ?_, z.2.2.2⟩
  have := z.2.2.1
  simp only [PyData.leavesShort] at this ⊢
  exact this
theorem sh_ints : ∀ {xs : List Int}, (∀ x ∈ xs, 0 ≤ x ∧ x ≤ 1000000000) → jt (42 * xs.length) (xs.map PyData.int)
  | [], _ => jt.nil
  | x :: xs, h => by
    have hx := h x (by simp)
    have ih := sh_ints (xs := xs) fun y hy => h y (by simp [hy])
    have z := jt.cons (sh_int (i := x) (by omega)) ih
    rw [List.map_cons]
    exact ⟨z.1, z.2.1, Nat.le_trans z.2.2 (by simp only [List.length_cons]; omega)⟩
theorem u_ints {F : Nat → Prop} {h : EH} {n : Nat} : ∀ xs : List Int, Paired (U F h n) (xs.map EV.int) (xs.map PyData.int)
  | [] => .nil
  | x :: xs => .cons (U.leaf rfl) (u_ints xs)
theorem uv_text {F : Nat → Prop} {h : EH} {xs : List Int} (hl : xs.length ≤ 40) (hx : ∀ x ∈ xs, 0 ≤ x ∧ x ≤ 1000000000) : UV F 1 1680 h (tx xs) :=
  ⟨.tuple (xs.map PyData.int), .inr (.inl ⟨_, _, rfl, by rw [List.length_map]; omega, rfl, u_ints xs⟩), (sh_ints hx).tup.more (by omega)⟩
def LB : Nat → EV → Prop
  | 0, _ => True
  | n + 1, v => ∀ xs, v = .tup xs → xs.length ≤ 100 ∧ ∀ x ∈ xs, LB n x
theorem LB.no {n : Nat} {v : EV} (h : ∀ xs, v ≠ .tup xs) : LB n v := by
  cases n with
  | zero => trivial
  | succ n => exact fun xs e => absurd e (h xs)
theorem LB.ints {n : Nat} {xs : List Int} (hl : xs.length ≤ 100) : LB n (tx xs) := by
  cases n with
  | zero => trivial
  | succ n =>
    intro ys e
    cases e
    refine ⟨by rw [List.length_map]; exact hl, fun x hx => ?_⟩
    obtain ⟨z, _, rfl⟩ := List.mem_map.mp hx
    exact LB.no fun _ e => by cases e
def GoodV (v : EV) : Prop := (∀ F h, UV F 3 4000 h v) ∧ LB 4 v
def lg (ad : Ad) : LSp := fun evs h Q => ∃ b, evs = [.ref b] ∧ bM h b ∧ ∀ v h', GoodV v → aD (is1 b) h h' → bM h' b → Q v h'
abbrev N__law_good : List Str := ["_law_bag_here", "_law_letters", "_law_way", "_law_k"]
def t__law_good_6 (ad : Ad) : LS :=
    aM (aA (d7 ad) (aa (ao 0) (aa (ao 1) (aa (lC (.int 40)) (ak)))))
def t__law_good_5 (ad : Ad) : LS :=
    aH (bB (lB (lOp (eqE false) (ao 2) (lC (.int 4))))
      (aM (aA (aY ad) (aa (ao 0) (aa (aU (aa (lC (.str [108, 101, 102, 116])) (aa (lC (.str [114, 105, 103, 104, 116])) (aa (lC (.str [110, 111, 110, 101])) (aa (lC (.str [108, 97, 103])) (aa (lC (.str [116, 111, 116, 97, 108])) (ak))))))) (ak)))))
      (aW)) <| t__law_good_6 ad
def t__law_good_4 (ad : Ad) : LS :=
    aH (bB (lB (lOp (eqE false) (ao 2) (lC (.int 3))))
      (aM (aG (aa (aA (d7 ad) (aa (ao 0) (aa (ao 1) (aa (lC (.int 5)) (ak))))) (aa (aA (d7 ad) (aa (ao 0) (aa (ao 1) (aa (lC (.int 5)) (ak))))) (ak)))))
      (aW)) <| t__law_good_5 ad
def t__law_good_3 (ad : Ad) : LS :=
    aH (bB (lB (lOp (eqE false) (ao 2) (lC (.int 2))))
      (aM (lBM "str" joinE (lC (.str [])) (aa (lLc (bV (aa (aA (bf ad) (aa (ao 0) (aa (lC (.int 30)) (ak)))) (ak))) (.nm 3) (mY) (aA (aY ad) (aa (ao 0) (aa (aU (aa (lC (.str [107])) (aa (lC (.str [100])) (aa (lC (.str [112])) (ak))))) (ak)))) [3]) (ak))))
      (aW)) <| t__law_good_4 ad
def t__law_good_2 (ad : Ad) : LS :=
    aH (bB (lB (lOp (eqE false) (ao 2) (lC (.int 1))))
      (aM (aA (lF ad) (aa (ao 0) (ak))))
      (aW)) <| t__law_good_3 ad
def t__law_good_1 (ad : Ad) : LS :=
    aH (bB (lB (lOp (eqE false) (ao 2) (lC (.int 0))))
      (aM (aA (iV ad) (aa (ao 0) (ak))))
      (aW)) <| t__law_good_2 ad
def t__law_good_0 (ad : Ad) : LS :=
    aH (gq 1 2 (aa (aA (gR ad) (aa (ao 0) (ak))) (aa (aA (bf ad) (aa (ao 0) (aa (lC (.int 6)) (ak)))) (ak)))) <| t__law_good_1 ad
def t__law_good (ad : Ad) : LS :=
    aH (gq 1 2 (aa (aA (gR ad) (aa (ao 0) (ak))) (aa (aA (bf ad) (aa (ao 0) (aa (lC (.int 6)) (ak)))) (ak)))) <|
    aH (bB (lB (lOp (eqE false) (ao 2) (lC (.int 0))))
      (aM (aA (iV ad) (aa (ao 0) (ak))))
      (aW)) <|
    aH (bB (lB (lOp (eqE false) (ao 2) (lC (.int 1))))
      (aM (aA (lF ad) (aa (ao 0) (ak))))
      (aW)) <|
    aH (bB (lB (lOp (eqE false) (ao 2) (lC (.int 2))))
      (aM (lBM "str" joinE (lC (.str [])) (aa (lLc (bV (aa (aA (bf ad) (aa (ao 0) (aa (lC (.int 30)) (ak)))) (ak))) (.nm 3) (mY) (aA (aY ad) (aa (ao 0) (aa (aU (aa (lC (.str [107])) (aa (lC (.str [100])) (aa (lC (.str [112])) (ak))))) (ak)))) [3]) (ak))))
      (aW)) <|
    aH (bB (lB (lOp (eqE false) (ao 2) (lC (.int 3))))
      (aM (aG (aa (aA (d7 ad) (aa (ao 0) (aa (ao 1) (aa (lC (.int 5)) (ak))))) (aa (aA (d7 ad) (aa (ao 0) (aa (ao 1) (aa (lC (.int 5)) (ak))))) (ak)))))
      (aW)) <|
    aH (bB (lB (lOp (eqE false) (ao 2) (lC (.int 4))))
      (aM (aA (aY ad) (aa (ao 0) (aa (aU (aa (lC (.str [108, 101, 102, 116])) (aa (lC (.str [114, 105, 103, 104, 116])) (aa (lC (.str [110, 111, 110, 101])) (aa (lC (.str [108, 97, 103])) (aa (lC (.str [116, 111, 116, 97, 108])) (ak))))))) (ak)))))
      (aW)) <|
    aM (aA (d7 ad) (aa (ao 0) (aa (ao 1) (aa (lC (.int 40)) (ak)))))
theorem len__law_good (ad : Ad) (evs : List EV) (h : EH) (Q : EK) (q : lg ad evs h Q) : evs.length = ["_law_bag_here"].length := by
  obtain ⟨_, rfl, _⟩ := q; rfl
theorem good_text {xs : List Int} (hl : xs.length ≤ 40) (hx : ∀ x ∈ xs, 0 ≤ x ∧ x ≤ 1000000000) : GoodV (tx xs) := ⟨fun F h => (uv_text hl hx).mono (fun _ g => g) (by decide) (by decide), LB.ints (by omega)⟩
theorem good_str {s : List Nat} (hl : s.length ≤ 1000) (hs : ∀ c ∈ s, c < 16 ^ 8) : GoodV (.str s) := ⟨fun F h => ⟨.str (S s), U.leaf rfl, (sh_str hs).more (by omega)⟩, LB.no fun _ e => by cases e⟩
theorem good_two {x y : List Int} (hl : x.length ≤ 5) (hx : ∀ z ∈ x, 0 ≤ z ∧ z ≤ 1000000000) (hm : y.length ≤ 5) (hy : ∀ z ∈ y, 0 ≤ z ∧ z ≤ 1000000000) : GoodV (.tup [tx x, tx y]) := by
  refine ⟨fun F h => ?_, fun xs e => ?_⟩
  · obtain ⟨d1, u1, s1⟩ := uv_text (F := F) (h := h) (xs := x) (by omega) hx
    obtain ⟨d2, u2, s2⟩ := uv_text (F := F) (h := h) (xs := y) (by omega) hy
    exact ⟨.tuple [d1, d2], .inr (.inl ⟨_, _, rfl, by simp, rfl, .cons (u1.le (by decide)) (.cons (u2.le (by decide)) .nil)⟩), (jt.cons s1 (jt.cons s2 (jt.nil (k := 0)))).tup.more (by decide)⟩
  · cases e
    refine ⟨by simp, fun v hv => ?_⟩
    simp only [List.mem_cons, List.not_mem_nil, or_false] at hv
    rcases hv with rfl | rfl
    · exact LB.ints (by omega)
    · exact LB.ints (by omega)
theorem good_prom {p : Prom} (ok : PromOk p) : GoodV p.e := by
  have two : ∀ (s : List Nat) (g : Int), s.length ≤ 10 → (∀ c ∈ s, c < 16 ^ 8) → 0 ≤ g → g ≤ 100 → GoodV (.tup [.str s, .int g]) := by
    intro s g hs hc h0 hg
    refine ⟨fun F h => ⟨.tuple [.str (S s), .int g], .inr (.inl ⟨_, _, rfl, by simp, rfl, .cons (U.leaf rfl) (.cons (U.leaf rfl) .nil)⟩), (jt.cons (sh_str hc) (jt.cons (sh_int (i := g) (by omega)) (jt.nil (k := 0)))).tup.more (by omega)⟩, fun xs e => ?_⟩
    cases e
    refine ⟨by simp, fun v hv => ?_⟩
    simp only [List.mem_cons, List.not_mem_nil, or_false] at hv
    rcases hv with rfl | rfl
    · exact LB.no fun _ e => by cases e
    · exact LB.no fun _ e => by cases e
  cases p with
  | none =>
    refine ⟨fun F h => (qp (k := 300) (by decide +kernel)).mono (fun _ g => g) (by decide) (by decide), fun xs e => ?_⟩
    cases e
    refine ⟨by simp, fun v hv => ?_⟩
    rw [List.mem_singleton.mp hv]
    exact LB.no fun _ e => by cases e
  | lag g => exact two [108, 97, 103] g (by decide) (by decide) (by have := ok.1; omega) (by have := ok.2; omega)
  | total g => exact two [116, 111, 116, 97, 108] g (by decide) (by decide) (by have := ok.1; omega) (by have := ok.2; omega)
theorem eqN_n {i j : Nat} {h : EH} {P : EK} (p : P (.bl (false ^^ decide (i = j))) h) : eqE false (.int (i : Nat)) (.int (j : Nat)) h P := by
  refine eq_i ?_
  have : decide (((i : Nat) : Int) = (j : Nat)) = decide (i = j) := decide_eq_decide.mpr (by omega)
  rw [this]
  exact p
theorem good_pair {p : Int × Int} (ok : PrOk p) (h1 : p.1 ≤ 3) (h2 : p.2 ≤ 3) : GoodV (pairE p) := by
  have a1 : p.1.natAbs < 10 ^ 12 := by have := ok.a1; omega
  have a2 : p.2.natAbs < 10 ^ 12 := by have := ok.b1; omega
  refine ⟨fun F h => ⟨.tuple [.int p.1, .int p.2], .inr (.inl ⟨_, _, rfl, by simp, rfl, .cons (U.leaf rfl) (.cons (U.leaf rfl) .nil)⟩), (jt.cons (sh_int a1) (jt.cons (sh_int a2) (jt.nil (k := 0)))).tup.more (by decide)⟩, fun xs e => ?_⟩
  cases e
  refine ⟨by simp, fun v hv => ?_⟩
  simp only [List.mem_cons, List.not_mem_nil, or_false] at hv
  rcases hv with rfl | rfl
  · exact LB.no fun _ e => by cases e
  · exact LB.no fun _ e => by cases e
theorem pure__law_good (ad : Ad) (evs : List EV) (h : EH) (Q : EK) (q : lg ad evs h Q) : t__law_good ad (aO Q) (bF N__law_good evs) h := by
  obtain ⟨b, rfl, B, q⟩ := q
  have sz : sizeLine = 16777216 := aN
  show t__law_good_0 ad (aO Q) [some (.ref b), none, none, none] h
  unfold t__law_good_0
  rw [aH, gq]
  simp only [aA, lC, aa, ak, ao, gZ]
  refine ⟨b, rfl, B, fun l ns h1 nd n0 n4 nr k1 l1 e1 B1 => ?_⟩
  refine take_n 6 B1 rfl (by decide) (by decide) fun way h2 hw k2 B2 => ?_
  have hb := B.lt
  have lb : l ≠ b := by omega
  have k02 := k1.trans k2
  have e2 := k2.other e1 lb
  have nn : ns ≠ [] := by intro e; rw [e] at n0; exact absurd n0 (by decide)
  simp only [sZ, sS]
  unfold t__law_good_1
  try dsimp only
  rw [aH, bB]
  simp only [lB, lOp, lC, ao, gZ, gS]
  refine eqN_n (j := 0) ?_
  by_cases c0 : way = 0
  · rw [decide_eq_true c0]
    simp only [Bool.false_xor, if_true, aM, aA, aa, ak, ao, gZ, gS]
    exact ⟨b, rfl, B2, fun p h3 ok k3 B3 => q _ h3 (good_prom ok) (k02.trans k3) B3⟩
  rw [decide_eq_false c0]
  simp only [Bool.false_xor, Bool.false_eq_true, if_false]
  try refine cP ?_
  unfold t__law_good_2
  try dsimp only
  rw [aH, bB]
  simp only [lB, lOp, lC, ao, gZ, gS]
  refine eqN_n (j := 1) ?_
  by_cases c1 : way = 1
  · rw [decide_eq_true c1]
    simp only [Bool.false_xor, if_true, aM, aA, aa, ak, ao, gZ, gS]
    exact ⟨b, rfl, B2, fun p h3 ok h13 h23 k3 B3 => q _ h3 (good_pair ok h13 h23) (k02.trans k3) B3⟩
  rw [decide_eq_false c1]
  simp only [Bool.false_xor, Bool.false_eq_true, if_false]
  try refine cP ?_
  unfold t__law_good_3
  try dsimp only
  rw [aH, bB]
  simp only [lB, lOp, lC, ao, gZ, gS]
  refine eqN_n (j := 2) ?_
  by_cases c2 : way = 2
  · rw [decide_eq_true c2]
    simp only [Bool.false_xor, if_true, aM, lBM, lLc, bV, aA, aU, lC, aa, ak, ao, gZ, gS]
    refine ⟨by simp [isTy], ?_⟩
    refine take_n 30 B2 rfl (by decide) (by decide) fun m h3 hm k3 B3 => ⟨⟨by omega, by omega⟩, ?_⟩
    rw [show ((m : Int)).toNat = m by omega]
    refine lc_bag (V := fun v => ∃ c, (c = 107 ∨ c = 100 ∨ c = 112) ∧ v = .str [c]) (j5 0 m) B3 (by simp [j5]; omega) (fun _ _ => trivial) (fun v hv h' ky k B' hy => iD ?_) fun vs h4 lv av k4 B4 e4 => ?_
    · simp only [sZ, sS, bJ, aA, aU, lC, aa, ak, ao, gZ, gS]
      refine ⟨by simp [aN], ?_⟩
      have en : (h' ++ [EO.lst [EV.str [107], .str [100], .str [112]]])[h'.length]? = some (.lst [EV.str [107], .str [100], .str [112]]) := aV
      have b1 := B'.lt
      refine ⟨b, h'.length, _, rfl, en, by simp, by simp [aN], by omega, B'.keep (aD.app _), fun u h5 hu k5 B5 => hy _ h5 ?_ ((aD.app _).all.trans k5) B5⟩
      simp only [List.mem_cons, List.not_mem_nil, or_false] at hu
      rcases hu with rfl | rfl | rfl
      · exact ⟨107, .inl rfl, rfl⟩
      · exact ⟨100, .inr (.inl rfl), rfl⟩
      · exact ⟨112, .inr (.inr rfl), rfl⟩
    obtain ⟨cs, hcs, rfl⟩ : ∃ cs : List Nat, (∀ c ∈ cs, c = 107 ∨ c = 100 ∨ c = 112) ∧ vs = cs.map fun c => EV.str [c] := by
      clear e4 lv
      induction vs with
      | nil => exact ⟨[], by simp, rfl⟩
      | cons v vs ih =>
        obtain ⟨cs, h1, h2⟩ := ih fun v hv => av v (by simp [hv])
        obtain ⟨c, hc, rfl⟩ := av v (by simp)
        refine ⟨c :: cs, fun d hd => ?_, by rw [List.map_cons, h2]⟩
        rcases List.mem_cons.mp hd with rfl | hd
        · exact hc
        · exact h1 d hd
    have lc : cs.length = m := by rw [List.length_map] at lv; rw [lv]; simp [j5]
    simp only [joinE, e4]
    refine ⟨cs.map fun c => [c], by rw [List.map_map]; rfl, ?_, ?_⟩
    · have : ((cs.map fun c => [c]).map (·.length)).sum = cs.length := by
        clear e4 hcs lv av lc
        induction cs with
        | nil => rfl
        | cons c cs ih => rw [List.map_cons, List.map_cons, List.sum_cons, ih]; simp; omega
      rw [this]
      simp
      omega
    · rw [join_nil]
      have fl : ∀ l : List Nat, (l.map fun c => [c]).flatten = l := fun l => by
        induction l with
        | nil => rfl
        | cons c l ih => rw [List.map_cons, List.flatten_cons, ih]; rfl
      rw [fl]
      exact q _ h4 (good_str (by omega) fun c hc => by rcases hcs c hc with rfl | rfl | rfl <;> decide) ((k02.trans k3).trans k4) B4
  rw [decide_eq_false c2]
  simp only [Bool.false_xor, Bool.false_eq_true, if_false]
  try refine cP ?_
  have tin : ∀ ms : List Int, (∀ m ∈ ms, m ∈ ns) → ∀ z ∈ ms, 0 ≤ z ∧ z ≤ 1000000000 := fun ms hm z hz => nr z (hm z hz)
  unfold t__law_good_4
  try dsimp only
  rw [aH, bB]
  simp only [lB, lOp, lC, ao, gZ, gS]
  refine eqN_n (j := 3) ?_
  by_cases c3 : way = 3
  · rw [decide_eq_true c3]
    simp only [Bool.false_xor, if_true, aM, aG, aA, lC, aa, ak, ao, gZ, gS]
    refine ⟨b, l, 5, ns, rfl, e2, nn, by omega, lb, by decide, B2, fun ms h3 lm hm k3 B3 => ?_⟩
    refine ⟨b, l, 5, ns, rfl, k3.other e2 lb, nn, by omega, lb, by decide, B3, fun ms2 h4 lm2 hm2 k4 B4 => ⟨by simp [aN], ?_⟩⟩
    exact q _ h4 (good_two (by omega) (tin ms hm) (by omega) (tin ms2 hm2)) ((k02.trans k3).trans k4) B4
  rw [decide_eq_false c3]
  simp only [Bool.false_xor, Bool.false_eq_true, if_false]
  try refine cP ?_
  unfold t__law_good_5
  try dsimp only
  rw [aH, bB]
  simp only [lB, lOp, lC, ao, gZ, gS]
  refine eqN_n (j := 4) ?_
  by_cases c4 : way = 4
  · rw [decide_eq_true c4]
    simp only [Bool.false_xor, if_true, aM, aU, aA, lC, aa, ak, ao, gZ, gS]
    refine ⟨by simp [aN], ?_⟩
    have en : (h2 ++ [EO.lst [EV.str [108, 101, 102, 116], .str [114, 105, 103, 104, 116], .str [110, 111, 110, 101], .str [108, 97, 103], .str [116, 111, 116, 97, 108]]])[h2.length]? = some (.lst [EV.str [108, 101, 102, 116], .str [114, 105, 103, 104, 116], .str [110, 111, 110, 101], .str [108, 97, 103], .str [116, 111, 116, 97, 108]]) := aV
    have b1 := B2.lt
    refine ⟨b, h2.length, _, rfl, en, by simp, by simp [aN], by omega, B2.keep (aD.app _), fun u h5 hu k5 B5 => ?_⟩
    simp only [List.mem_cons, List.not_mem_nil, or_false] at hu
    have kk := (k02.trans (aD.app _).all).trans k5
    rcases hu with rfl | rfl | rfl | rfl | rfl
    · exact q _ h5 (good_str (by decide) (by decide)) kk B5
    · exact q _ h5 (good_str (by decide) (by decide)) kk B5
    · exact q _ h5 (good_str (by decide) (by decide)) kk B5
    · exact q _ h5 (good_str (by decide) (by decide)) kk B5
    · exact q _ h5 (good_str (by decide) (by decide)) kk B5
  rw [decide_eq_false c4]
  simp only [Bool.false_xor, Bool.false_eq_true, if_false]
  try refine cP ?_
  unfold t__law_good_6
  simp only [aM, aA, lC, aa, ak, ao, gZ, gS]
  exact ⟨b, l, 40, ns, rfl, e2, nn, by omega, lb, by decide, B2, fun ms h3 lm hm k3 B3 => q _ h3 (good_text (by omega) (tin ms hm)) (k02.trans k3) B3⟩
theorem prd_take {α β : Type} {R : α → β → Prop} : ∀ (n : Nat) {xs : List α} {ys : List β}, Paired R xs ys → Paired R (xs.take n) (ys.take n)
  | 0, _, _, _ => .nil
  | _ + 1, _, _, .nil => .nil
  | n + 1, _, _, .cons a b => .cons a (prd_take n b)
theorem prd_drop {α β : Type} {R : α → β → Prop} : ∀ (n : Nat) {xs : List α} {ys : List β}, Paired R xs ys → Paired R (xs.drop n) (ys.drop n)
  | 0, _, _, p => p
  | _ + 1, _, _, .nil => .nil
  | n + 1, _, _, .cons a b => prd_drop n b
theorem prd_app {α β : Type} {R : α → β → Prop} : ∀ {xs us : List α} {ys vs : List β}, Paired R xs ys → Paired R us vs → Paired R (xs ++ us) (ys ++ vs)
  | _, _, _, _, .nil, q => q
  | _, _, _, _, .cons a b, q => .cons a (prd_app b q)
theorem jt.app : ∀ {xs ys : List PyData} {a b : Nat}, jt a xs → jt b ys → jt (a + b) (xs ++ ys)
  | [], ys, a, b, x, y => ⟨y.1, y.2.1, by have := y.2.2; simp only [List.nil_append]; omega⟩
  | z :: xs, ys, a, b, x, y => by
    obtain ⟨x1, x2, x3⟩ := x
    simp only [PyData.showableAll, PyData.leavesShortAll, PyData.weightAll, Bool.and_eq_true] at x1 x2 x3
    obtain ⟨i1, i2, i3⟩ := jt.app (xs := xs) (a := PyData.weightAll xs) ⟨x1.2, x2.2, Nat.le_refl _⟩ y
    refine ⟨?_, ?_, ?_⟩
    · simp only [List.cons_append, PyData.showableAll, x1.1, i1, Bool.and_self]
    · simp only [List.cons_append, PyData.leavesShortAll, x2.1, i2, Bool.and_self]
    · simp only [List.cons_append, PyData.weightAll]; omega
theorem jt.split : ∀ {xs ys : List PyData} {k : Nat}, jt k (xs ++ ys) → ∃ a b, a + b ≤ k ∧ jt a xs ∧ jt b ys
  | [], ys, k, x => ⟨0, k, by omega, .nil, x⟩
  | z :: xs, ys, k, x => by
    obtain ⟨x1, x2, x3⟩ := x
    simp only [List.cons_append, PyData.showableAll, PyData.leavesShortAll, PyData.weightAll, Bool.and_eq_true] at x1 x2 x3
    obtain ⟨a, b, l, p, q⟩ := jt.split (xs := xs) (ys := ys) (k := PyData.weightAll (xs ++ ys)) ⟨x1.2, x2.2, Nat.le_refl _⟩
    exact ⟨z.weight + 1 + a, b, by omega, jt.cons ⟨x1.1, x2.1, Nat.le_refl _⟩ p, q⟩
def UVs (F : Nat → Prop) (m k : Nat) (h : EH) (xs : List EV) : Prop := ∃ ds, Paired (U F h m) xs ds ∧ jt k ds
theorem UVs.keep {F : Nat → Prop} {n k : Nat} {h h' : EH} {v : List EV} (z : UVs F n k h v) (kp : aD F h h') : UVs F n k h' v := let ⟨d, u, s⟩ := z; ⟨d, kW (fun _ _ u => u.keep kp) u, s⟩
theorem UVs.split {F : Nat → Prop} {n k : Nat} {h : EH} {xs : List EV} (z : UVs F n k h xs) (i : Nat) : ∃ a b, a + b ≤ k ∧ UVs F n a h (xs.take i) ∧ UVs F n b h (xs.drop i) := by
  obtain ⟨ds, p, s⟩ := z
  rw [← List.take_append_drop i ds] at s
  obtain ⟨a, b, l, s1, s2⟩ := s.split
  exact ⟨a, b, l, ⟨_, prd_take i p, s1⟩, ⟨_, prd_drop i p, s2⟩⟩
theorem UVs.uncons {F : Nat → Prop} {n k : Nat} {h : EH} {x : EV} {xs : List EV} (z : UVs F n k h (x :: xs)) : ∃ a b, a + 1 + b ≤ k ∧ UV F n a h x ∧ UVs F n b h xs := by
  obtain ⟨ds, p, s⟩ := z
  cases p with
  | cons a b =>
    obtain ⟨x1, x2, x3⟩ := s
    simp only [PyData.showableAll, PyData.leavesShortAll, PyData.weightAll, Bool.and_eq_true] at x1 x2 x3
    exact ⟨_, _, x3, ⟨_, a, x1.1, x2.1, Nat.le_refl _⟩, ⟨_, b, x1.2, x2.2, Nat.le_refl _⟩⟩
theorem UVs.one {F : Nat → Prop} {n k : Nat} {h : EH} {x : EV} (z : UV F n k h x) : UVs F n (k + 1) h [x] := by
  obtain ⟨d, u, s⟩ := z
  exact ⟨[d], .cons u .nil, jt.cons s (.nil (k := 0))⟩
theorem UVs.app {F : Nat → Prop} {n a b : Nat} {h : EH} {xs ys : List EV} (z : UVs F n a h xs) (w : UVs F n b h ys) : UVs F n (a + b) h (xs ++ ys) := by
  obtain ⟨d, u, s⟩ := z
  obtain ⟨e, v, t⟩ := w
  exact ⟨d ++ e, prd_app u v, s.app t⟩
theorem UVs.tup {F : Nat → Prop} {n k j : Nat} {h : EH} {xs : List EV} (z : UVs F n k h xs) (hl : xs.length ≤ 1000) (l : k ≤ j) : UV F (n + 1) j h (.tup xs) := by
  obtain ⟨d, u, s⟩ := z
  exact ⟨.tuple d, .inr (.inl ⟨xs, d, rfl, hl, rfl, u⟩), s.tup.more l⟩
theorem UVs.lst {F : Nat → Prop} {n k j r : Nat} {h : EH} {xs : List EV} (z : UVs F n k h xs) (f : ¬ F r) (e : h[r]? = some (.lst xs)) (l : k ≤ j) : UV F (n + 1) j h (.ref r) := by
  obtain ⟨d, u, s⟩ := z
  exact ⟨.list d, .inr (.inr (.inl ⟨r, xs, d, rfl, f, e, rfl, u⟩)), s.lst.more l⟩
theorem UV.items {F : Nat → Prop} {n k : Nat} {h : EH} {xs : List EV} (z : UV F n k h (.tup xs)) : ∃ m, n = m + 1 ∧ UVs F m k h xs := by
  obtain ⟨d, u, s⟩ := z
  obtain ⟨_, m, ds, rfl, rfl, p⟩ := u.tup
  exact ⟨m, rfl, ds, p, s.items⟩
theorem UV.strs {F : Nat → Prop} {n k : Nat} {h : EH} {s : List Nat} (z : UV F n k h (.str s)) : s.length ≤ k ∧ ∀ c ∈ s, c < 16 ^ 8 := by
  obtain ⟨d, u, s1, s2, s3⟩ := z
  rw [u.str] at s2 s3
  refine ⟨by simpa [PyData.weight] using s3, fun c hc => ?_⟩
  simp only [PyData.leavesShort, List.all_eq_true, decide_eq_true_eq] at s2
  exact s2 c (by simpa using hc)
def bU (ad : Ad) : Nat → LSp
  | 0 => fun _ _ _ => False
  | dd + 1 => fun evs h Q => ∃ (b : Nat) (v : EV) (dp n k : Nat) (F : Nat → Prop), evs = [.ref b, v, .int (dp : Nat)] ∧ dp ≤ dd ∧ bM h b ∧ F b ∧ (∀ r, F r → r < h.length) ∧ dp + 4 ≤ n ∧ k ≤ 50000 ∧ UV F n k h v ∧ LB dp v ∧
    ∀ u h', UV F n (k + 302) h' u → aD (is1 b) h h' → bM h' b → Q u h'
def lZ (ad : Ad) : LSp := bU ad 12
abbrev N__law_bent_k11 : List Str := ["_law_bag_here", "_law_thing", "_law_depth", "_law_way", "_law_at"]
def pq (ad : Ad) (me : LSp) : LS :=
    aM (lOp bG (lOp bG (lSl (ao 1) (aP none) (aP (some (ao 4)))) (aG (aa (aA me (aa (ao 0) (aa (lOp ixA (ao 1) (ao 4)) (aa (lOp subE (ao 2) (lC (.int 1))) (ak))))) (ak)))) (lSl (ao 1) (aP (some (lOp bG (ao 4) (lC (.int 1))))) (aP none)))
def pA (ad : Ad) (me : LSp) : LS :=
    aH (bA (lCB minE (aa (ao 4) (aa (lOp subE (lCB gJ (aa (ao 1) (ak))) (lC (.int 1))) (ak)))) 4) <| pq ad me
def qj (ad : Ad) (me : LSp) : LS :=
    aH (bB (lB (lOp eqT0 (ao 1) (aG (ak))))
      (aM (aG (aa (aA (aY ad) (aa (ao 0) (aa (aA (bQ ad) ak) (ak)))) (ak))))
      (aW)) <| pA ad me
def pK (ad : Ad) (me : LSp) : LS :=
    aH (bB (lB (lOp (eqE false) (ao 3) (lC (.int 2))))
      (aM (lOp bG (lSl (ao 1) (aP none) (aP (some (ao 4)))) (lSl (ao 1) (aP (some (lOp bG (ao 4) (lC (.int 1))))) (aP none))))
      (aW)) <| qj ad me
def pW (ad : Ad) (me : LSp) : LS :=
    aH (bB (lB (lOp (eqE false) (ao 3) (lC (.int 1))))
      (aM (lOp bG (lOp bG (lSl (ao 1) (aP none) (aP (some (ao 4)))) (aG (aa (aA (aY ad) (aa (ao 0) (aa (aA (bQ ad) ak) (ak)))) (ak)))) (lSl (ao 1) (aP (some (ao 4))) (aP none))))
      (aW)) <| pK ad me
def pB (ad : Ad) (me : LSp) : LS :=
    aH (bB (lB (lOp (eqE false) (ao 3) (lC (.int 0))))
      (aM (lCB listOf (aa (ao 1) (ak))))
      (aW)) <| pW ad me
def pZ (ad : Ad) (me : LSp) : LS :=
    aH (bA (aA (bf ad) (aa (ao 0) (aa (lOp bG (lCB gJ (aa (ao 1) (ak))) (lC (.int 1))) (ak)))) 4) <| pB ad me
def kY (ad : Ad) (me : LSp) : LS :=
    aH (bB (lOr (cD (lT (lCB jM (aa (ao 1) (aa (lC (.ty "tuple")) (ak)))))) (lOr (lB (lOp (eqE false) (ao 3) (lC (.int 4)))) (lB (lOp (eqE false) (ao 2) (lC (.int 0))))))
      (aM (aA (aY ad) (aa (ao 0) (aa (aA (bQ ad) ak) (ak)))))
      (aW)) <| pZ ad me
def pC (ad : Ad) (me : LSp) : LS :=
    aH (bB (iY (lT (lCB jM (aa (ao 1) (aa (lC (.ty "str")) (ak))))) (lB (lOp ltE (ao 3) (lC (.int 4)))))
      (aH (bA (aA (bf ad) (aa (ao 0) (aa (lOp bG (lCB gJ (aa (ao 1) (ak))) (lC (.int 1))) (ak)))) 4) <|
    aM (lOp bG (lOp bG (lSl (ao 1) (aP none) (aP (some (ao 4)))) (aA (aY ad) (aa (ao 0) (aa (aU (aa (lC (.str [107])) (aa (lC (.str [100])) (aa (lC (.str [120])) (aa (lC (.str [32])) (aa (lC (.str [75])) (aa (lC (.str [10])) (aa (lC (.str [108, 101, 102, 116])) (aa (lC (.str [49])) (ak)))))))))) (ak))))) (lSl (ao 1) (aP (some (lOp bG (ao 4) (lCB intOf (aa (lOp (eqE false) (ao 3) (lC (.int 1))) (ak)))))) (aP none))))
      (aW)) <| kY ad me
def o9 (ad : Ad) (me : LSp) : LS :=
    aH (bA (aA (bf ad) (aa (ao 0) (aa (lC (.int 5)) (ak)))) 3) <| pC ad me
def t__law_bent_k11 (ad : Ad) (me : LSp) : LS :=
    aH (bA (aA (bf ad) (aa (ao 0) (aa (lC (.int 5)) (ak)))) 3) <|
    aH (bB (iY (lT (lCB jM (aa (ao 1) (aa (lC (.ty "str")) (ak))))) (lB (lOp ltE (ao 3) (lC (.int 4)))))
      (aH (bA (aA (bf ad) (aa (ao 0) (aa (lOp bG (lCB gJ (aa (ao 1) (ak))) (lC (.int 1))) (ak)))) 4) <|
    aM (lOp bG (lOp bG (lSl (ao 1) (aP none) (aP (some (ao 4)))) (aA (aY ad) (aa (ao 0) (aa (aU (aa (lC (.str [107])) (aa (lC (.str [100])) (aa (lC (.str [120])) (aa (lC (.str [32])) (aa (lC (.str [75])) (aa (lC (.str [10])) (aa (lC (.str [108, 101, 102, 116])) (aa (lC (.str [49])) (ak)))))))))) (ak))))) (lSl (ao 1) (aP (some (lOp bG (ao 4) (lCB intOf (aa (lOp (eqE false) (ao 3) (lC (.int 1))) (ak)))))) (aP none))))
      (aW)) <|
    aH (bB (lOr (cD (lT (lCB jM (aa (ao 1) (aa (lC (.ty "tuple")) (ak)))))) (lOr (lB (lOp (eqE false) (ao 3) (lC (.int 4)))) (lB (lOp (eqE false) (ao 2) (lC (.int 0))))))
      (aM (aA (aY ad) (aa (ao 0) (aa (aA (bQ ad) ak) (ak)))))
      (aW)) <|
    aH (bA (aA (bf ad) (aa (ao 0) (aa (lOp bG (lCB gJ (aa (ao 1) (ak))) (lC (.int 1))) (ak)))) 4) <|
    aH (bB (lB (lOp (eqE false) (ao 3) (lC (.int 0))))
      (aM (lCB listOf (aa (ao 1) (ak))))
      (aW)) <|
    aH (bB (lB (lOp (eqE false) (ao 3) (lC (.int 1))))
      (aM (lOp bG (lOp bG (lSl (ao 1) (aP none) (aP (some (ao 4)))) (aG (aa (aA (aY ad) (aa (ao 0) (aa (aA (bQ ad) ak) (ak)))) (ak)))) (lSl (ao 1) (aP (some (ao 4))) (aP none))))
      (aW)) <|
    aH (bB (lB (lOp (eqE false) (ao 3) (lC (.int 2))))
      (aM (lOp bG (lSl (ao 1) (aP none) (aP (some (ao 4)))) (lSl (ao 1) (aP (some (lOp bG (ao 4) (lC (.int 1))))) (aP none))))
      (aW)) <|
    aH (bB (lB (lOp eqT0 (ao 1) (aG (ak))))
      (aM (aG (aa (aA (aY ad) (aa (ao 0) (aa (aA (bQ ad) ak) (ak)))) (ak))))
      (aW)) <|
    aH (bA (lCB minE (aa (ao 4) (aa (lOp subE (lCB gJ (aa (ao 1) (ak))) (lC (.int 1))) (ak)))) 4) <|
    aM (lOp bG (lOp bG (lSl (ao 1) (aP none) (aP (some (ao 4)))) (aG (aa (aA me (aa (ao 0) (aa (lOp ixA (ao 1) (ao 4)) (aa (lOp subE (ao 2) (lC (.int 1))) (ak))))) (ak)))) (lSl (ao 1) (aP (some (lOp bG (ao 4) (lC (.int 1))))) (aP none)))
theorem len__law_bent_k11 (ad : Ad) (dd : Nat) (evs : List EV) (h : EH) (Q : EK) (q : bU ad (dd + 1) evs h Q) : evs.length = ["_law_bag_here", "_law_thing", "_law_depth"].length := by
  obtain ⟨_, _, _, _, _, _, rfl, _⟩ := q; rfl
theorem aD.of1 {F : Nat → Prop} {b : Nat} {h h' : EH} (k : aD (is1 b) h h') (f : F b) : aD F h h' := ⟨k.1, fun r o e n => k.2 r o e fun z => n (by rw [show r = b from z]; exact f)⟩
theorem drawn {ad : Ad} {h : EH} {b n k : Nat} {F : Nat → Prop} {P : EK} (B : bM h b) (hF : ∀ r, F r → r < h.length) (hn : 3 ≤ n) (hk : 300 ≤ k) (p : ∀ u h', UV F n k h' u → aD (is1 b) h h' → bM h' b → P u h') : bQ ad [] h fun x h' => aY ad [.ref b, x] h' P := by
  refine ⟨rfl, fun r ys h1 k1 lr e ne hl uv => ?_⟩
  have hb := B.lt
  refine ⟨b, r, ys, rfl, e, ne, by rw [aN]; omega, by omega, B.keep k1, fun x h2 hx k2 B2 => p x h2 ?_ (k1.all.trans k2) B2⟩
  have f : F b ∨ ¬ F b := Classical.em _
  refine ((uv x hx).keep (k2.of1 (F := fun r => r < h.length) hb)).mono hF hn hk
theorem pure__law_bent_k11 (ad : Ad) (dd : Nat) (evs : List EV) (h : EH) (Q : EK) (q : bU ad (dd + 1) evs h Q) : t__law_bent_k11 ad (bU ad dd) (aO Q) (bF N__law_bent_k11 evs) h := by
  obtain ⟨b, v, dp, n, k, F, rfl, hd, B, fb, hF, hn, hk, uv, lb, q⟩ := q
  have sz : sizeLine = 16777216 := aN
  show o9 ad (bU ad dd) (aO Q) [some (.ref b), some v, some (.int (dp : Nat)), none, none] h
  have jd := uv.jd (by omega)
  unfold o9
  rw [aH, bA]
  simp only [aA, lC, aa, ak, ao, gZ]
  refine take_n 5 B rfl (by decide) (by decide) fun way h1 hw k1 B1 => ?_
  have uv1 := uv.keep (k1.of1 fb)
  have hF1 : ∀ r, F r → r < h1.length := fun r z => Nat.lt_of_lt_of_le (hF r z) k1.1
  have kn1 := (uv1.jd (by omega)).d.k
  simp only [sZ, sS]
  unfold pC
  rw [aH, bB]
  simp only [iY, lT, lB, lCB, lOp, lC, aa, ak, ao, gZ, gS]
  have anew : kY ad (bU ad dd) (aO Q) [some (.ref b), some v, some (.int (dp : Nat)), some (.int (way : Nat)), none] h1 := by
    unfold kY
    rw [aH, bB]
    simp only [lOr, cD, lT, lB, lCB, lOp, lC, aa, ak, ao, gZ, gS]
    have draw : ∀ P : EK, (∀ u h', UV F n (k + 302) h' u → aD (is1 b) h h' → bM h' b → P u h') → bQ ad [] h1 fun x h' => aY ad [.ref b, x] h' P := fun P p => drawn B1 hF1 (by omega) (by omega) fun u h2 u2 k2 B2 => p u h2 u2 (k1.trans k2) B2
    refine nQ kn1.ty (by simp) fun t2 e2 => ?_
    rcases ty_tup e2 kn1.2 with ⟨e3, xs, rfl⟩ | ⟨e3, ns⟩
    case inr =>
      rw [e3]
      simp only [gW, Bool.not_false, if_true, aM, aA, aa, ak, ao, gZ, gS]
      exact draw _ fun u h2 u2 k2 B2 => q u h2 u2 k2 B2
    rw [e3]
    simp only [gW, Bool.not_true, Bool.false_eq_true, if_false]
    refine eqN_n (j := 4) ?_
    by_cases c4 : way = 4
    · rw [decide_eq_true c4]
      simp only [Bool.false_xor, if_true, aM, aA, aa, ak, ao, gZ, gS]
      exact draw _ fun u h2 u2 k2 B2 => q u h2 u2 k2 B2
    rw [decide_eq_false c4]
    simp only [Bool.false_xor, Bool.false_eq_true, if_false]
    refine eqN_n (j := 0) ?_
    by_cases d0 : dp = 0
    · rw [decide_eq_true d0]
      simp only [Bool.false_xor, if_true, aM, aA, aa, ak, ao, gZ, gS]
      exact draw _ fun u h2 u2 k2 B2 => q u h2 u2 k2 B2
    rw [decide_eq_false d0]
    simp only [Bool.false_xor, Bool.false_eq_true, if_false]
    try refine cP ?_
    obtain ⟨dp, rfl⟩ : ∃ e, dp = e + 1 := ⟨dp - 1, by omega⟩
    obtain ⟨hl, lbs⟩ := lb xs rfl
    obtain ⟨m, rfl, us⟩ := uv1.items
    unfold pZ
    rw [aH, bA]
    simp only [aA, lOp, lCB, lC, aa, ak, ao, gJ, gZ, gS]
    refine pD ?_
    refine take_n (xs.length + 1) B1 (by omega) (by omega) (by omega) fun at_ h2 ha k2 B2 => ?_
    have us2 := us.keep (k2.of1 fb)
    have hF2 : ∀ r, F r → r < h2.length := fun r z => Nat.lt_of_lt_of_le (hF1 r z) k2.1
    have k02 := k1.trans k2
    simp only [sZ, sS]
    have ltk : (xs.take at_).length ≤ 100 := by rw [List.length_take]; omega
    have ldr : ∀ i, (xs.drop i).length ≤ 100 := fun i => by rw [List.length_drop]; omega
    unfold pB
    rw [aH, bB]
    simp only [lB, lOp, lC, ao, gZ, gS]
    refine eqN_n (j := 0) ?_
    by_cases c0 : way = 0
    · rw [decide_eq_true c0]
      simp only [Bool.false_xor, if_true, aM, lCB, aa, ak, ao, gZ, gS]
      simp only [listOf]
      refine q _ _ ?_ (k02.trans (aD.app _).all) (B2.keep (aD.app _))
      exact (us2.keep (aD.app _).all).lst (fun z => by have := hF2 _ z; omega) aV (by omega)
    rw [decide_eq_false c0]
    simp only [Bool.false_xor, Bool.false_eq_true, if_false]
    try refine cP ?_
    unfold pW
    rw [aH, bB]
    simp only [lB, lOp, lC, ao, gZ, gS]
    refine eqN_n (j := 1) ?_
    by_cases c1 : way = 1
    · rw [decide_eq_true c1]
      simp only [Bool.false_xor, if_true, aM, lOp, lSl, aP, aG, aA, aa, ak, ao, gZ, gS, slE]
      rw [cut_to]
      refine drawn (n := m) (k := 300) B2 hF2 (by omega) (by omega) fun u h3 u3 k3 B3 => ?_
      refine ⟨by rw [sz]; simp, ?_⟩
      refine (show bG (.tup (xs.take at_)) (.tup [u]) _ _ from ⟨by simp only [List.length_singleton]; omega, ?_⟩)
      rw [oZ]
      refine (show bG (.tup (xs.take at_ ++ [u])) (.tup (xs.drop at_)) _ _ from ⟨by have := ldr at_; rw [List.length_append]; simp only [List.length_singleton]; omega, ?_⟩)
      obtain ⟨a, b', l, w1, w2⟩ := (us2.keep (k3.of1 fb)).split at_
      refine q _ _ (((w1.app (.one u3)).app w2).tup ?_ (by omega)) (k02.trans k3) B3
      have := ldr at_
      simp only [List.length_append, List.length_singleton]
      omega
    rw [decide_eq_false c1]
    simp only [Bool.false_xor, Bool.false_eq_true, if_false]
    try refine cP ?_
    unfold pK
    rw [aH, bB]
    simp only [lB, lOp, lC, ao, gZ, gS]
    refine eqN_n (j := 2) ?_
    by_cases c2 : way = 2
    · rw [decide_eq_true c2]
      simp only [Bool.false_xor, if_true, aM, lOp, lSl, aP, lC, aa, ak, ao, gZ, gS, slE]
      rw [cut_to]
      refine pD ?_
      rw [show ((at_ : Nat) : Int) + 1 = ((at_ + 1 : Nat) : Int) by omega]
      dsimp only
      rw [oZ]
      refine (show bG (.tup (xs.take at_)) (.tup (xs.drop (at_ + 1))) _ _ from ⟨by have := ldr (at_ + 1); omega, ?_⟩)
      obtain ⟨a, b', l, w1, w2⟩ := us2.split at_
      obtain ⟨c, d, l2, w3, w4⟩ := w2.split 1
      rw [List.drop_drop] at w4
      refine q _ _ ((w1.app w4).tup ?_ (by omega)) k02 B2
      have := ldr (at_ + 1)
      simp only [List.length_append]
      omega
    rw [decide_eq_false c2]
    simp only [Bool.false_xor, Bool.false_eq_true, if_false]
    try refine cP ?_
    unfold qj
    rw [aH, bB]
    simp only [lB, lOp, aG, lC, aa, ak, ao, gZ, gS]
    refine ⟨by rw [sz]; simp, .inl ⟨xs, rfl, rfl, ?_⟩⟩
    by_cases ce : xs = []
    · rw [decide_eq_true ce]
      simp only [if_true, aM, aG, aA, aa, ak, ao, gZ, gS]
      refine drawn (n := m) (k := 300) B2 hF2 (by omega) (by omega) fun u h3 u3 k3 B3 => ⟨by rw [sz]; simp, ?_⟩
      exact q _ _ ((UVs.one u3).tup (by simp) (by omega)) (k02.trans k3) B3
    rw [decide_eq_false ce]
    simp only [Bool.false_eq_true, if_false]
    try refine cP ?_
    have pos : 0 < xs.length := List.length_pos_iff.mpr ce
    unfold pA
    rw [aH, bA]
    simp only [lCB, lOp, lC, aa, ak, ao, gJ, gZ, gS]
    refine sub_i ?_
    obtain ⟨i, hi, ei⟩ : ∃ i : Nat, i < xs.length ∧ (if ((xs.length : Nat) : Int) - 1 < (at_ : Nat) then ((xs.length : Nat) : Int) - 1 else (at_ : Nat)) = ((i : Nat) : Int) := by
      by_cases c : xs.length - 1 < at_
      · exact ⟨xs.length - 1, by omega, by rw [if_pos (by omega)]; omega⟩
      · exact ⟨at_, by omega, by rw [if_neg (by omega)]⟩
    simp only [minE]
    rw [ei]
    simp only [sZ, sS]
    unfold pq
    simp only [aM, lOp, lSl, aP, aG, aA, lC, aa, ak, ao, gZ, gS, slE]
    rw [cut_to]
    have sp : xs.drop i = xs[i] :: xs.drop (i + 1) := List.drop_eq_getElem_cons hi
    simp only [ixA]
    refine ix_t (x := xs[i]) (by rw [atI_n]; exact List.getElem?_eq_getElem hi) ?_
    refine sub_i ?_
    rw [show ((dp + 1 : Nat) : Int) - 1 = ((dp : Nat) : Int) by omega]
    obtain ⟨a, b', l, w1, w2⟩ := us2.split i
    rw [sp] at w2
    obtain ⟨c, d, l2, w3, w4⟩ := w2.uncons
    obtain ⟨dd, rfl⟩ : ∃ e, dd = e + 1 := ⟨dd - 1, by omega⟩
    refine (show bU ad (dd + 1) [.ref b, xs[i], .int (dp : Nat)] h2 _ from ⟨b, xs[i], dp, m, c, F, rfl, by omega, B2, fb, hF2, by omega, by omega, w3, lbs _ (List.getElem_mem hi), fun u h3 u3 k3 B3 => ⟨by rw [sz]; simp, ?_⟩⟩)
    have lti : (xs.take i).length ≤ 100 := by rw [List.length_take]; omega
    refine (show bG (.tup (xs.take i)) (.tup [u]) _ _ from ⟨by simp only [List.length_singleton]; omega, ?_⟩)
    refine pD ?_
    rw [show ((i : Nat) : Int) + 1 = ((i + 1 : Nat) : Int) by omega]
    dsimp only
    rw [oZ]
    have := ldr (i + 1)
    refine (show bG (.tup (xs.take i ++ [u])) (.tup (xs.drop (i + 1))) _ _ from ⟨by rw [List.length_append]; simp only [List.length_singleton]; omega, ?_⟩)
    refine q _ _ ((((w1.keep (k3.of1 fb)).app (.one u3)).app (w4.keep (k3.of1 fb))).tup ?_ (by omega)) (k02.trans k3) B3
    simp only [List.length_append, List.length_singleton]
    omega
  refine nQ kn1.ty (by simp) fun t2 e2 => ?_
  rcases ty_str e2 with ⟨e3, s, rfl⟩ | ⟨e3, ns⟩
  · rw [e3]
    simp only [gW, if_true]
    refine lt_i ?_
    by_cases w4 : way < 4
    · rw [decide_eq_true (show ((way : Nat) : Int) < 4 by omega)]
      obtain ⟨sl, sc⟩ := uv1.strs
      simp only [if_true]
      rw [aH, bA]
      simp only [aA, lOp, lCB, lC, aa, ak, ao, gJ, gZ, gS]
      try refine ⟨by omega, ?_⟩
      refine pD ?_
      refine take_n (s.length + 1) B1 (by omega) (by omega) (by omega) fun at_ h2 ha k2 B2 => ?_
      simp only [sZ, sS, aM, lOp, lSl, aP, aU, aA, lCB, lC, aa, ak, ao, gZ, gS, slE]
      rw [cut_to]
      refine ⟨by omega, by rw [sz]; simp, ?_⟩
      refine one_new B2 (by simp) (by simp) fun x h3 hx k3 B3 => ?_
      obtain ⟨w, rfl, lw, cw⟩ : ∃ w : List Nat, x = .str w ∧ w.length ≤ 5 ∧ ∀ c ∈ w, c < 16 ^ 8 := by
        simp only [List.mem_cons, List.not_mem_nil, or_false] at hx
        rcases hx with rfl | rfl | rfl | rfl | rfl | rfl | rfl | rfl <;> exact ⟨_, rfl, by decide, by decide⟩
      have lt : (s.take at_).length ≤ s.length := by rw [List.length_take]; omega
      have ld : ∀ i, (s.drop i).length ≤ s.length - i := fun i => by rw [List.length_drop]; omega
      refine add_s (by omega) ?_
      refine eqN_n (j := 1) ?_
      rw [Bool.false_xor]
      refine int_b ?_
      refine pD ?_
      obtain ⟨j, hj, ej⟩ : ∃ j : Nat, at_ ≤ j ∧ ((at_ : Nat) : Int) + (if decide (way = 1) = true then 1 else 0) = ((j : Nat) : Int) := by
        by_cases c : way = 1
        · exact ⟨at_ + 1, by omega, by rw [if_pos (by simpa using c)]; omega⟩
        · exact ⟨at_, by omega, by rw [if_neg (by simpa using c)]; omega⟩
      rw [ej]
      dsimp only
      rw [oZ]
      have := ld j
      have e4 : (s.take at_).length = at_ := by rw [List.length_take]; omega
      refine ⟨by omega, add_s (by rw [List.length_append]; omega) ?_⟩
      refine q _ _ ?_ ((k1.trans k2).trans k3) B3
      refine ⟨.str (S (s.take at_ ++ w ++ s.drop j)), U.leaf rfl, (sh_str fun c hc => ?_).more ?_⟩
      · rcases List.mem_append.mp hc with hc | hc
        · rcases List.mem_append.mp hc with hc | hc
          · exact sc c (List.mem_of_mem_take hc)
          · exact cw c hc
        · exact sc c (List.mem_of_mem_drop hc)
      · simp only [List.length_append]
        omega
    · rw [decide_eq_false (show ¬ ((way : Nat) : Int) < 4 by omega)]
      simp only [Bool.false_eq_true, if_false]
      try refine cP ?_
      exact anew
  · rw [e3]
    simp only [gW, Bool.false_eq_true, if_false]
    try refine cP ?_
    exact anew
abbrev N_law_k11 : List Str := ["_law_script", "_law_bag_here", "_law_things", "_law_k", "_law_thing", "_law_due", "_law_said", "_law_again", "_law_at", "_law_odd", "_law_long", "_law_spot", "_law_bent_here"]
def t_law_k11_9 (ad : Ad) : LS :=
    aM (lC (.bl true))
def t_law_k11_8b_0 (ad : Ad) : LS :=
    bB (cD (lT (aA (cA ad) (aa (aA (cV ad) (aa (ao 4) (ak))) (aa (lOp iK (aU (aa (lC (.bl false)) (ak))) (lC (.int 8))) (ak))))))
      (aM (lC (.bl false)))
      (aW)
def t_law_k11_8 (ad : Ad) : LS :=
    aH (gj (lIt (aG (aa (pM ad.a_Prices (bu ad) (aa (lDnew) (ak))) (aa (aG (aa (pM ad.a_Prices (bu ad) (aa (lDisp [((lC (.int 1)), (aG (aa (lC (.int 2)) (aa (lC (.int 2)) (ak)))))]) (ak))) (ak))) (aa (aG (aa (aG (ak)) (aa (aG (aa (pM ad.a_Prices (bu ad) (aa (lDnew) (ak))) (ak))) (ak)))) (aa (aU (aa (pM ad.a_Prices (bu ad) (aa (lDnew) (ak))) (ak))) (ak))))))) (.nm 4)
      (t_law_k11_8b_0 ad)) <| t_law_k11_9 ad
def t_law_k11_7b_0 (ad : Ad) : LS :=
    bB (cD (lT (aA (cA ad) (aa (aA (cV ad) (aa (ao 4) (ak))) (aa (aA (fQ ad) (aa (ao 4) (ak))) (ak))))))
      (aM (lC (.bl false)))
      (aW)
def t_law_k11_7 (ad : Ad) : LS :=
    aH (gj (lIt (lOp bG (ao 2) (aU (aa (ao 10) (aa (ao 12) (aa (aG (aa (lOp iK (aG (aa (lC (.int 1)) (ak))) (lC (.int 300))) (aa (lOp iK (aG (aa (lC (.int 2)) (ak))) (lC (.int 200))) (ak)))) (aa (aG (aa (lOp iK (aG (aa (lC (.int 1)) (ak))) (lC (.int 300))) (aa (ao 12) (ak)))) (ak)))))))) (.nm 4)
      (t_law_k11_7b_0 ad)) <| t_law_k11_8 ad
def t_law_k11_6 (ad : Ad) : LS :=
    aH (gq 12 2 (aa (lOp bG (lOp bG (lSl (ao 10) (aP none) (aP (some (ao 11)))) (aG (aa (ao 9) (ak)))) (lSl (ao 10) (aP (some (ao 11))) (aP none))) (aa (aU (aa (lOp iK (lC (.str [107, 100, 112])) (lC (.int 700))) (aa (lOp bG (lOp bG (lSl (lOp iK (lC (.str [107, 100, 112])) (lC (.int 700))) (aP none) (aP (some (ao 8)))) (lC (.str [120]))) (lSl (lOp iK (lC (.str [107, 100, 112])) (lC (.int 700))) (aP (some (ao 8))) (aP none))) (ak)))) (ak)))) <| t_law_k11_7 ad
def t_law_k11_5 (ad : Ad) : LS :=
    aH (bA (aA (bf ad) (aa (ao 1) (aa (lC (.int 701)) (ak)))) 11) <| t_law_k11_6 ad
def t_law_k11_4 (ad : Ad) : LS :=
    aH (lPar3 8 9 10 (aa (aA (bf ad) (aa (ao 1) (aa (lC (.int 2100)) (ak)))) (aa (aA (aY ad) (aa (ao 1) (aa (aU (aa (lC .non) (aa (lC (.bl true)) (aa (dY (lC (.int 1))) (aa (lC (.str [107])) (aa (aG (aa (lC (.int 3)) (ak))) (aa (aU (ak)) (aa (lOp bG (lOp powE (lC (.int 10)) (lC (.int 9))) (lC (.int 1))) (ak))))))))) (ak)))) (aa (lOp iK (aG (aa (lC (.int 3)) (ak))) (lC (.int 700))) (ak))))) <| t_law_k11_5 ad
def pP (ad : Ad) : LS :=
    bB (lOr (cD (lT (aA (cA ad) (aa (aA (cV ad) (aa (ao 4) (ak))) (aa (ao 5) (ak)))))) (lB (lOp (eqE true) (lCB reprDD (aa (ao 4) (ak))) (ao 6))))
      (aM (lC (.bl false)))
      (aW)
def t_law_k11_3b_1 (ad : Ad) : LS :=
    gj (bV (aa (lC (.int 2)) (ak))) (.nm 7)
      (pP ad)
def t_law_k11_3b_0 (ad : Ad) : LS :=
    aH (gq 5 6 (aa (aA (fQ ad) (aa (ao 4) (ak))) (aa (lCB reprDD (aa (ao 4) (ak))) (ak)))) <| t_law_k11_3b_1 ad
def t_law_k11_3 (ad : Ad) : LS :=
    aH (gj (lIt (ao 2)) (.nm 4)
      (t_law_k11_3b_0 ad)) <| t_law_k11_4 ad
def t_law_k11_2b_1 (ad : Ad) : LS :=
    dh (lBM "list" extendE (ao 2) (aa (aU (aa (ao 4) (aa (aA (lZ ad) (aa (ao 1) (aa (ao 4) (aa (lC (.int 3)) (ak))))) (ak)))) (ak)))
def t_law_k11_2b_0 (ad : Ad) : LS :=
    aH (bA (aA (lg ad) (aa (ao 1) (ak))) 4) <| t_law_k11_2b_1 ad
def t_law_k11_2 (ad : Ad) : LS :=
    aH (gj (bV (aa (lC (.int 14)) (ak))) (.nm 3)
      (t_law_k11_2b_0 ad)) <| t_law_k11_3 ad
def t_law_k11_1 (ad : Ad) : LS :=
    aH (bA (lLc (bV (aa (lC (.int 12)) (ak))) (.nm 3) (mY) (aA (aY ad) (aa (ao 1) (aa (aA (bQ ad) ak) (ak)))) [3]) 2) <| t_law_k11_2 ad
def t_law_k11_0 (ad : Ad) : LS :=
    aH (bA (aA (m9 ad) (aa (ao 0) (ak))) 1) <| t_law_k11_1 ad
def t_law_k11 (ad : Ad) : LS :=
    aH (bA (aA (m9 ad) (aa (ao 0) (ak))) 1) <|
    aH (bA (lLc (bV (aa (lC (.int 12)) (ak))) (.nm 3) (mY) (aA (aY ad) (aa (ao 1) (aa (aA (bQ ad) ak) (ak)))) [3]) 2) <|
    aH (gj (bV (aa (lC (.int 14)) (ak))) (.nm 3)
      (aH (bA (aA (lg ad) (aa (ao 1) (ak))) 4) <|
    dh (lBM "list" extendE (ao 2) (aa (aU (aa (ao 4) (aa (aA (lZ ad) (aa (ao 1) (aa (ao 4) (aa (lC (.int 3)) (ak))))) (ak)))) (ak))))) <|
    aH (gj (lIt (ao 2)) (.nm 4)
      (aH (gq 5 6 (aa (aA (fQ ad) (aa (ao 4) (ak))) (aa (lCB reprDD (aa (ao 4) (ak))) (ak)))) <|
    gj (bV (aa (lC (.int 2)) (ak))) (.nm 7)
      (bB (lOr (cD (lT (aA (cA ad) (aa (aA (cV ad) (aa (ao 4) (ak))) (aa (ao 5) (ak)))))) (lB (lOp (eqE true) (lCB reprDD (aa (ao 4) (ak))) (ao 6))))
      (aM (lC (.bl false)))
      (aW)))) <|
    aH (lPar3 8 9 10 (aa (aA (bf ad) (aa (ao 1) (aa (lC (.int 2100)) (ak)))) (aa (aA (aY ad) (aa (ao 1) (aa (aU (aa (lC .non) (aa (lC (.bl true)) (aa (dY (lC (.int 1))) (aa (lC (.str [107])) (aa (aG (aa (lC (.int 3)) (ak))) (aa (aU (ak)) (aa (lOp bG (lOp powE (lC (.int 10)) (lC (.int 9))) (lC (.int 1))) (ak))))))))) (ak)))) (aa (lOp iK (aG (aa (lC (.int 3)) (ak))) (lC (.int 700))) (ak))))) <|
    aH (bA (aA (bf ad) (aa (ao 1) (aa (lC (.int 701)) (ak)))) 11) <|
    aH (gq 12 2 (aa (lOp bG (lOp bG (lSl (ao 10) (aP none) (aP (some (ao 11)))) (aG (aa (ao 9) (ak)))) (lSl (ao 10) (aP (some (ao 11))) (aP none))) (aa (aU (aa (lOp iK (lC (.str [107, 100, 112])) (lC (.int 700))) (aa (lOp bG (lOp bG (lSl (lOp iK (lC (.str [107, 100, 112])) (lC (.int 700))) (aP none) (aP (some (ao 8)))) (lC (.str [120]))) (lSl (lOp iK (lC (.str [107, 100, 112])) (lC (.int 700))) (aP (some (ao 8))) (aP none))) (ak)))) (ak)))) <|
    aH (gj (lIt (lOp bG (ao 2) (aU (aa (ao 10) (aa (ao 12) (aa (aG (aa (lOp iK (aG (aa (lC (.int 1)) (ak))) (lC (.int 300))) (aa (lOp iK (aG (aa (lC (.int 2)) (ak))) (lC (.int 200))) (ak)))) (aa (aG (aa (lOp iK (aG (aa (lC (.int 1)) (ak))) (lC (.int 300))) (aa (ao 12) (ak)))) (ak)))))))) (.nm 4)
      (bB (cD (lT (aA (cA ad) (aa (aA (cV ad) (aa (ao 4) (ak))) (aa (aA (fQ ad) (aa (ao 4) (ak))) (ak))))))
      (aM (lC (.bl false)))
      (aW))) <|
    aH (gj (lIt (aG (aa (pM ad.a_Prices (bu ad) (aa (lDnew) (ak))) (aa (aG (aa (pM ad.a_Prices (bu ad) (aa (lDisp [((lC (.int 1)), (aG (aa (lC (.int 2)) (aa (lC (.int 2)) (ak)))))]) (ak))) (ak))) (aa (aG (aa (aG (ak)) (aa (aG (aa (pM ad.a_Prices (bu ad) (aa (lDnew) (ak))) (ak))) (ak)))) (aa (aU (aa (pM ad.a_Prices (bu ad) (aa (lDnew) (ak))) (ak))) (ak))))))) (.nm 4)
      (bB (cD (lT (aA (cA ad) (aa (aA (cV ad) (aa (ao 4) (ak))) (aa (lOp iK (aU (aa (lC (.bl false)) (ak))) (lC (.int 8))) (ak))))))
      (aM (lC (.bl false)))
      (aW))) <|
    aM (lC (.bl true))
theorem bl_ds {h : EH} : ∀ bs : List Bool, DSs h 1 bs.length (bs.map EV.bl) (bs.map PyData.bool)
  | [] => DSs.nil
  | b :: bs => (DSs.cons (DS.bl (k := 0)) (bl_ds bs)).more (by simp only [List.length_cons]; omega)
theorem alike_js {ad : Ad} {h : EH} {Q : EK} {r1 r2 : Nat} {bs : List Bool} (hl : bs.length ≤ 20) (e1 : h[r1]? = some (.lst (bs.map EV.bl))) (e2 : h[r2]? = some (.lst (bs.map EV.bl))) (q : Q (.bl true) h) : cA ad [.ref r1, .ref r2] h Q :=
  alike_ok (n := 2) (k := 20) ((DS.lst e1 (bl_ds bs)).more hl) ((DS.lst e2 (bl_ds bs)).more hl) (by decide) (by decide) q
theorem judged_len (v : EV) : (judged v).length ≤ 20 := by simp [judged]
theorem told_due {ad : Ad} {h : EH} {v : EV} {P : EK} (j : Jd h v) (p : ∀ h', aD no1 h h' → P (.bl true) h') : cV ad [v] h fun x h1 => fQ ad [v] h1 fun y h2 => cA ad [x, y] h2 P :=
  ⟨v, rfl, j, fun r1 h1 k1 _ e1 => ⟨v, rfl, j.keep k1, fun r2 h2 k2 _ e2 => alike_js (judged_len v) (k2.at e1) e2 (p h2 (k1.trans k2))⟩⟩
theorem prs {ad : Ad} {env : En} {h : EH} {P : EK} (p : ∀ r g, aD no1 h g → (∀ g', aD no1 g g' → tyE (.ref r) g' = some "?") → P (.ref r) g) : pM ad.a_Prices (bu ad) (aa (lDnew) (ak)) env h P := by
  simp only [pM, aa, ak, lDnew]
  refine ⟨_, _, [], rfl, aV, dG aV _, ⟨List.nodup_nil, fun _ h => (by cases h)⟩, by decide, fun h1 k1 pr => ⟨rfl, ?_⟩⟩
  have kn : aD no1 (h ++ [EO.dic []]) h1 := keep_new (aD.app _) k1 (Nat.le_refl _)
  refine p _ h1 ((aD.app _).trans kn) fun g' k => ?_
  obtain ⟨d, e1, _⟩ := pr
  simp only [tyE, k.at e1]
theorem prs1 {ad : Ad} {env : En} {h : EH} {P : EK} (p : ∀ r g, aD no1 h g → (∀ g', aD no1 g g' → tyE (.ref r) g' = some "?") → P (.ref r) g) : pM ad.a_Prices (bu ad) (aa (lDisp [((lC (.int 1)), (aG (aa (lC (.int 2)) (aa (lC (.int 2)) (ak)))))]) (ak)) env h P := by
  simp only [pM, aa, ak, lDisp, lPairs, lC, aG]
  refine ⟨by simp [aN], aV, fun p hp => by rw [List.mem_singleton.mp hp]; trivial, by decide, ?_⟩
  rw [qd]
  refine ⟨_, _, [(1, 2, 2)], rfl, aV, dG aV _, ⟨by simp, fun _ hm => ?_⟩, by decide, fun h1 k1 pr => ⟨rfl, ?_⟩⟩
  · rw [List.mem_singleton.mp hm]
    constructor <;> decide
  have kn : aD no1 (h ++ [EO.dic [(.int 1, .tup [.int 2, .int 2])]]) h1 := keep_new (aD.app _) k1 (Nat.le_refl _)
  refine p _ h1 ((aD.app _).trans kn) fun g' k => ?_
  obtain ⟨d, e1, _⟩ := pr
  simp only [tyE, k.at e1]
theorem kn_obj {r : Nat} {g : EH} (t : ∀ g', aD no1 g g' → tyE (.ref r) g' = some "?") : Kn g (.ref r) := ⟨⟨"?", t⟩, fun _ e => by cases e⟩
theorem jd_ref {r : Nat} {g : EH} (k : Kn g (.ref r)) : Jd g (.ref r) := ⟨⟨k, fun xs e => by cases e⟩, fun s e => by cases e⟩
theorem jd_tup {g : EH} {xs : List EV} (hl : xs.length ≤ 1000) (hk : ∀ x ∈ xs, Kn g x ∧ ∀ ys, x = .tup ys → ys.length ≤ 1000 ∧ ∀ y ∈ ys, Kn g y) : Jd g (.tup xs) := ⟨⟨kn_tupA _, fun ys e => by cases e; exact ⟨hl, hk⟩⟩, fun s e => by cases e⟩
theorem end_k11 {ad : Ad} {D : LEnds} {h : EH} {b t : EV} {x0 x3 x4 x5 x6 x7 x8 x9 x10 x11 x12 : Option EV} (hk : ∀ h', D.rt (.bl true) h') :
    t_law_k11_8 ad D [x0, some b, some t, x3, x4, x5, x6, x7, x8, x9, x10, x11, x12] h := by
  have sz : sizeLine = 16777216 := aN
  unfold t_law_k11_8
  rw [aH, gj, lIt]
  simp only [aG, aU, aa, ak]
  refine prs fun p1 g1 k1 t1 => ?_
  refine prs1 fun p2 g2 k2 t2 => ?_
  refine ⟨by rw [sz]; simp, by rw [sz]; simp, ?_⟩
  refine prs fun p3 g3 k3 t3 => ?_
  refine ⟨by rw [sz]; simp, by rw [sz]; simp, ?_⟩
  refine prs fun p4 g4 k4 t4 => ?_
  refine ⟨by rw [sz]; simp, by rw [sz]; simp, ?_⟩
  try dsimp only
  have e5 : (g4 ++ [EO.lst [EV.ref p4]])[g4.length]? = some (.lst [EV.ref p4]) := aV
  have k5 : aD no1 g4 (g4 ++ [EO.lst [EV.ref p4]]) := aD.app _
  generalize g4.length = r5 at e5 ⊢
  generalize g4 ++ [EO.lst [EV.ref p4]] = g5 at e5 k5 ⊢
  have n1 : Kn g5 (.ref p1) := (kn_obj t1).keep (((k2.trans k3).trans k4).trans k5)
  have n2 : Kn g5 (.ref p2) := (kn_obj t2).keep ((k3.trans k4).trans k5)
  have n3 : Kn g5 (.ref p3) := (kn_obj t3).keep (k4.trans k5)
  have j : ∀ y ∈ [EV.ref p1, .tup [.ref p2], .tup [.tup [], .tup [.ref p3]], .ref r5], Jd g5 y ∧ judged y = List.replicate 8 false := by
    intro y hy
    simp only [List.mem_cons, List.not_mem_nil, or_false] at hy
    rcases hy with rfl | rfl | rfl | rfl
    · exact ⟨jd_ref n1, rfl⟩
    · refine ⟨jd_tup (by simp) fun x hx => ?_, rfl⟩
      rw [List.mem_singleton.mp hx]
      exact ⟨n2, fun ys e => by cases e⟩
    · refine ⟨jd_tup (by simp) fun x hx => ?_, rfl⟩
      simp only [List.mem_cons, List.not_mem_nil, or_false] at hx
      rcases hx with rfl | rfl
      · exact ⟨kn_tupA _, fun ys e => by cases e; exact ⟨by simp, fun y hy => by cases hy⟩⟩
      · exact ⟨kn_tupA _, fun ys e => by cases e; exact ⟨by simp, fun y hy => by rw [List.mem_singleton.mp hy]; exact n3⟩⟩
    · exact ⟨jd_ref (kn_lstA e5), rfl⟩
  refine loop_ind (fun left env h' => (∃ y4, env = [x0, some b, some t, x3, y4, x5, x6, x7, x8, x9, x10, x11, x12]) ∧ aD no1 g5 h' ∧ ∀ y ∈ left, y ∈ [EV.ref p1, .tup [.ref p2], .tup [.tup [], .tup [.ref p3]], .ref r5]) ?_ ?_ _ _ _ ⟨⟨_, rfl⟩, .refl, fun y hy => hy⟩
  · rintro env h' ⟨⟨y4, rfl⟩, k', _⟩
    refine ⟨trivial, ?_⟩
    unfold t_law_k11_9
    simp only [aM, lC]
    exact hk _
  · rintro y left env h' kk ⟨⟨y4, rfl⟩, k', sub⟩ hkk
    refine ⟨trivial, iD ?_⟩
    simp only [sZ, sS]
    obtain ⟨jy, ey⟩ := j y (sub y (by simp))
    unfold t_law_k11_8b_0
    rw [bB]
    simp only [cD, lT, aA, lOp, aU, lC, aa, ak, ao, gZ, gS]
    refine ⟨y, rfl, jy.keep k', fun r1 h1 k1 _ e1 => ?_⟩
    refine ⟨by rw [sz]; simp, ?_⟩
    simp only [iK, aV]
    refine ⟨by rw [sz]; simp, ?_⟩
    rw [ey] at e1
    refine alike_js (bs := List.replicate 8 false) (by simp) (dG (dG e1 _) _) (by rw [aV]; rfl) ?_
    simp only [gW, Bool.not_true, Bool.false_eq_true, if_false]
    try refine cP ?_
    exact hkk _ _ ⟨⟨_, rfl⟩, (k'.trans k1).trans ((aD.app _).trans (aD.app _)), fun y hy => sub y (by simp [hy])⟩
theorem mul_rep {m i : Int} {h : EH} {P : EK} (k : Nat) (e : m = (k : Nat)) (h2 : 2 ≤ k) (h1 : k ≤ 1000) (p : P (tx (List.replicate k i)) h) : iK (.tup [.int i]) (.int m) h P := by
  subst e
  refine ⟨⟨by simp, by omega, by omega, by simp⟩, ?_⟩
  have : repN ((k : Nat) : Int) [EV.int i] = (List.replicate k i).map EV.int := by
    rw [List.map_replicate]
    simp [repN]
  rw [this]
  exact p
theorem uvs_rep {F : Nat → Prop} {n : Nat} {h : EH} (k : Nat) {i : Int} (h0 : 0 ≤ i) (h1 : i ≤ 1000000000) : UVs F n (42 * k) h ((List.replicate k i).map EV.int) :=
  ⟨_, u_ints _, by
    have := sh_ints (xs := List.replicate k i) fun x hx => by rw [(List.mem_replicate.mp hx).2]; exact ⟨h0, h1⟩
    rwa [List.length_replicate] at this⟩
theorem mul_repx {m i : Int} {h : EH} {P : EK} (k : Nat) (e : m = (k : Nat)) (h2 : 2 ≤ k) (h1 : k ≤ 1000) (h0 : 0 ≤ i) (hi : i ≤ 1000000000) (p : ∀ L : List Int, L.length = k → (∀ F n g, UVs F n (42 * k) g (L.map EV.int)) → P (tx L) h) : iK (.tup [.int i]) (.int m) h P :=
  mul_rep k e h2 h1 (p _ List.length_replicate fun F n g => uvs_rep k h0 hi)
theorem far_k11 {ad : Ad} {D : LEnds} {h : EH} {b : EV} {t : Nat} {long bent : EV} {ys : List EV} {x0 x3 x4 x5 x6 x7 x8 x9 x11 : Option EV} (e : h[t]? = some (.lst ys)) (yl : ys.length ≤ 100) (jy : ∀ y ∈ ys, Jd h y) (jl : Jd h long) (jb : UV no1 9 30000 h bent) (hk : ∀ h', D.rt (.bl true) h') :
    t_law_k11_7 ad D [x0, some b, some (.ref t), x3, x4, x5, x6, x7, x8, x9, some long, x11, some bent] h := by
  have sz : sizeLine = 16777216 := aN
  unfold t_law_k11_7
  rw [aH, gj, lIt]
  simp only [aG, aU, lOp, lC, aa, ak, ao, gZ, gS]
  refine ⟨by rw [sz]; simp, mul_repx 300 rfl (by decide) (by decide) (by decide) (by decide) fun A lA uA => ?_⟩
  refine ⟨by rw [sz]; simp, mul_repx 200 rfl (by decide) (by decide) (by decide) (by decide) fun A2 lA2 uA2 => ?_⟩
  refine ⟨by rw [sz]; simp, by rw [sz]; simp, mul_repx 300 rfl (by decide) (by decide) (by decide) (by decide) fun A3 lA3 uA3 => ?_⟩
  refine ⟨by rw [sz]; simp, by rw [sz]; simp, ?_⟩
  refine add_l (dG e _) aV (by simp only [List.length_cons, List.length_nil]; omega) ?_
  dsimp only
  rw [aV]
  dsimp only
  have t3 := (uA no1 9 h).tup (j := 12600) (by rw [List.length_map]; omega) (by decide)
  have t2 := (uA2 no1 9 h).tup (j := 8400) (by rw [List.length_map]; omega) (by decide)
  have t4 := (uA3 no1 9 h).tup (j := 12600) (by rw [List.length_map]; omega) (by decide)
  have j3 : Jd h (.tup [tx A, tx A2]) := (((UVs.one t3).app (.one t2)).tup (j := 60000) (by simp) (by decide)).jd (by decide)
  have j4 : Jd h (.tup [tx A3, bent]) := (((UVs.one t4).app (.one (jb.mono (m := 10) (j := 30000) (fun _ z => z) (by decide) (by decide)))).tup (j := 60000) (by simp) (by decide)).jd (by decide)
  have jall : ∀ y ∈ ys ++ [long, bent, .tup [tx A, tx A2], .tup [tx A3, bent]], Jd h y := by
    intro y hy
    rcases List.mem_append.mp hy with hy | hy
    · exact jy y hy
    · simp only [List.mem_cons, List.not_mem_nil, or_false] at hy
      rcases hy with rfl | rfl | rfl | rfl
      · exact jl
      · exact jb.jd (by decide)
      · exact j3
      · exact j4
  generalize hzs : ys ++ [long, bent, .tup [tx A, tx A2], .tup [tx A3, bent]] = zs at jall ⊢
  have kq : aD no1 h (h ++ [EO.lst [long, bent, .tup [tx A, tx A2], .tup [tx A3, bent]]] ++ [EO.lst zs]) := (aD.app _).trans (aD.app _)
  have eq : (h ++ [EO.lst [long, bent, .tup [tx A, tx A2], .tup [tx A3, bent]]] ++ [EO.lst zs])[(h ++ [EO.lst [long, bent, .tup [tx A, tx A2], .tup [tx A3, bent]]]).length]? = some (.lst zs) := aV
  generalize (h ++ [EO.lst [long, bent, .tup [tx A, tx A2], .tup [tx A3, bent]]]).length = q at eq ⊢
  generalize (h ++ [EO.lst [long, bent, .tup [tx A, tx A2], .tup [tx A3, bent]]] ++ [EO.lst zs]) = h1 at kq eq ⊢
  refine loop_ind (fun left env h' => (∃ y4, env = [x0, some b, some (.ref t), x3, y4, x5, x6, x7, x8, x9, some long, x11, some bent]) ∧ aD no1 h1 h' ∧ ∀ y ∈ left, y ∈ zs) ?_ ?_ _ _ _ ⟨⟨_, rfl⟩, .refl, fun y hy => hy⟩
  · rintro env h' ⟨⟨y4, rfl⟩, k', _⟩
    exact ⟨k'.at eq, end_k11 hk⟩
  · rintro y left env h' kk ⟨⟨y4, rfl⟩, k', sub⟩ hkk
    refine ⟨k'.at eq, iD ?_⟩
    simp only [sZ, sS]
    unfold t_law_k11_7b_0
    rw [bB]
    simp only [cD, lT, aA, lC, aa, ak, ao, gZ, gS]
    refine told_due ((jall y (sub y (by simp))).keep (kq.trans k')) fun h2 k2 => ?_
    simp only [gW, Bool.not_true, Bool.false_eq_true, if_false]
    try refine cP ?_
    exact hkk _ _ ⟨⟨_, rfl⟩, k'.trans k2, fun y hy => sub y (by simp [hy])⟩
theorem mid_k11 {ad : Ad} {D : LEnds} {h : EH} {b : Nat} {x0 x2 x3 x4 x5 x6 x7 x8 x9 x10 x11 x12 : Option EV} (B : bM h b) (hk : ∀ h', D.rt (.bl true) h') :
    t_law_k11_4 ad D [x0, some (.ref b), x2, x3, x4, x5, x6, x7, x8, x9, x10, x11, x12] h := by
  have sz : sizeLine = 16777216 := aN
  unfold t_law_k11_4
  rw [aH, lPar3]
  simp only [aA, aU, aG, lOp, dY, lC, aa, ak, ao, gZ, gS]
  refine take_n 2100 B rfl (by decide) (by decide) fun at_ h1 ha k1 B1 => ?_
  refine ⟨by rw [sz]; simp, by rw [sz]; simp, ?_⟩
  refine pow_i (by unfold CPow; decide) ?_
  refine pD ⟨by rw [sz]; simp, ?_⟩
  have ea : (h1 ++ [EO.lst []])[h1.length]? = some (.lst []) := aV
  have ka : aD no1 h1 (h1 ++ [EO.lst []]) := aD.app _
  have la := B1.lt
  generalize hr : h1.length = a at ea la ⊢
  generalize h1 ++ [EO.lst []] = h2 at ea ka ⊢
  have B2 := B1.keep ka
  refine one_new B2 (by simp) (by simp) fun odd h3 ho k3 B3 => ?_
  have uo : UV (is1 b) 3 300 h3 odd := by
    have ea3 := k3.other ea (by omega)
    simp only [List.mem_cons, List.not_mem_nil, or_false] at ho
    rcases ho with rfl | rfl | rfl | rfl | rfl | rfl | rfl
    · exact qp (by decide +kernel)
    · exact qp (by decide +kernel)
    · exact qp (by decide +kernel)
    · exact qp (by decide +kernel)
    · exact qp (by decide +kernel)
    · exact uv_lst ea3 (fun z => by have z : a = b := z; omega) rfl ⟨by decide +kernel, by decide +kernel, by decide +kernel⟩
    · exact qp (by decide +kernel)
  refine ⟨by rw [sz]; simp, mul_repx 700 rfl (by decide) (by decide) (by decide) (by decide) fun L hlong ul' => ?_⟩
  have ul : ∀ g, UVs (is1 b) 3 29400 g (L.map EV.int) := fun g => ul' _ _ g
  simp only [sZ, sS]
  unfold t_law_k11_5
  try dsimp only
  rw [aH, bA]
  simp only [aA, lC, aa, ak, ao, gZ, gS]
  refine take_n 701 B3 rfl (by decide) (by decide) fun sp h4 hsp k4 B4 => ?_
  simp only [sZ, sS]
  unfold t_law_k11_6
  try dsimp only
  rw [aH, gq]
  simp only [aU, aG, lOp, lSl, aP, lC, aa, ak, ao, gZ, gS, slE]
  rw [cut_to, oZ]
  have mk : (L.map EV.int).length = 700 := by rw [List.length_map, hlong]
  have l1 : ((L.map EV.int).take sp).length = sp := by rw [List.length_take, mk]; omega
  have l2 : ((L.map EV.int).drop sp).length = 700 - sp := by rw [List.length_drop, mk]
  refine ⟨by rw [sz]; simp, (show bG (.tup ((L.map EV.int).take sp)) (.tup [odd]) _ _ from ⟨by simp only [List.length_singleton]; omega, ?_⟩)⟩
  refine (show bG (.tup ((L.map EV.int).take sp ++ [odd])) (.tup ((L.map EV.int).drop sp)) _ _ from ⟨by simp only [List.length_append, List.length_singleton]; omega, ?_⟩)
  obtain ⟨wa, wb, wl, w1, w2⟩ := (ul h4).split sp
  have ub : UV (is1 b) 4 30000 h4 (.tup ((L.map EV.int).take sp ++ [odd] ++ (L.map EV.int).drop sp)) := ((w1.app (.one (uo.keep k4))).app w2).tup (by simp only [List.length_append, List.length_singleton]; omega) (by omega)
  have jl : Jd h4 (tx L) := ((ul h4).tup (j := 29400) (by omega) (Nat.le_refl _)).jd (by decide)
  generalize EV.tup ((L.map EV.int).take sp ++ [odd] ++ (L.map EV.int).drop sp) = bent at ub ⊢
  have ms : ∀ P : EK, (∀ (s : List Nat), s.length = 2100 → P (.str s) h4) → iK (.str [107, 100, 112]) (.int 700) h4 P := fun P p => mul_s (by decide) (p _ (by simp [repN]))
  refine ms _ fun s1 ls1 => ms _ fun s2 ls2 => ⟨by omega, ?_⟩
  rw [cut_to]
  have l3 : (s2.take at_).length = at_ := by rw [List.length_take]; omega
  refine add_s (by simp only [List.length_singleton]; omega) (ms _ fun s3 ls3 => ⟨by omega, ?_⟩)
  rw [oZ]
  have l4 : (s3.drop at_).length = 2100 - at_ := by rw [List.length_drop]; omega
  refine add_s (by simp only [List.length_append, List.length_singleton]; omega) ⟨by rw [sz]; simp, ?_⟩
  generalize hs4 : s2.take at_ ++ [120] ++ s3.drop at_ = s4
  have ls4 : s4.length ≤ 3000 := by rw [← hs4]; simp only [List.length_append, List.length_singleton]; omega
  simp only [sZ, sS]
  have kz : aD no1 h4 (h4 ++ [EO.lst [EV.str s1, .str s4]]) := aD.app _
  refine far_k11 (ys := [EV.str s1, .str s4]) aV (by simp) (fun y hy => ?_) (jl.keep kz) ((ub.keep kz.all).mono (fun _ z => z.elim) (by decide) (Nat.le_refl _)) hk
  simp only [List.mem_cons, List.not_mem_nil, or_false] at hy
  rcases hy with rfl | rfl
  · exact ⟨⟨kn_strA _, fun xs e => by cases e⟩, fun s e => by cases e; omega⟩
  · exact ⟨⟨kn_strA _, fun xs e => by cases e⟩, fun s e => by cases e; omega⟩
def NoAt (b t : Nat) : Nat → Prop := fun r => r = b ∨ r = t
theorem each_k11 {ad : Ad} {D : LEnds} {h : EH} {b t : Nat} {ys : List EV} {x0 x3 x4 x5 x6 x7 x8 x9 x10 x11 x12 : Option EV} (B : bM h b) (e : h[t]? = some (.lst ys)) (hy : ∀ y ∈ ys, UV (NoAt b t) 7 5000 h y) (hk : ∀ h', D.rt (.bl true) h') :
    t_law_k11_3 ad D [x0, some (.ref b), some (.ref t), x3, x4, x5, x6, x7, x8, x9, x10, x11, x12] h := by
  have sz : sizeLine = 16777216 := aN
  unfold t_law_k11_3
  rw [aH, gj, lIt]
  simp only [ao, gZ, gS, e]
  refine loop_ind (fun left env h' => (∃ y4 y5 y6 y7, env = [x0, some (.ref b), some (.ref t), x3, y4, y5, y6, y7, x8, x9, x10, x11, x12]) ∧ aD no1 h h' ∧ ∀ y ∈ left, y ∈ ys) ?_ ?_ _ _ _ ⟨⟨_, _, _, _, rfl⟩, .refl, fun y hy => hy⟩
  · rintro env h' ⟨⟨y4, y5, y6, y7, rfl⟩, k', _⟩
    exact ⟨k'.at e, mid_k11 (B.keep k') hk⟩
  · rintro y left env h' kk ⟨⟨y4, y5, y6, y7, rfl⟩, k', sub⟩ hkk
    refine ⟨k'.at e, iD ?_⟩
    simp only [sZ, sS]
    have u := (hy y (sub y (by simp))).keep (h' := h') k'.all
    obtain ⟨tt, ht⟩ := u.repr (by decide) (by decide)
    have j := u.jd (by decide)
    unfold t_law_k11_3b_0
    rw [aH, gq]
    simp only [aA, lCB, aa, ak, ao, gZ, gS]
    refine ⟨y, rfl, j, fun r1 h1 k1 _ e1 => ?_⟩
    refine ht h1 k1.all _ ?_
    simp only [sZ, sS]
    unfold t_law_k11_3b_1
    try dsimp only
    rw [gj]
    simp only [bV, lC, aa, ak]
    refine ⟨⟨by decide, by decide⟩, ?_⟩
    refine loop_nat 2 (fun _ env h2 => aD no1 h1 h2 ∧ ∃ z7, env = [x0, some (.ref b), some (.ref t), x3, some y, some (.ref r1), some (.str tt), z7, x8, x9, x10, x11, x12]) ?_ ?_ _ _ ⟨.refl, _, rfl⟩
    · rintro env h2 ⟨k2, z7, rfl⟩
      exact ⟨trivial, hkk _ _ ⟨⟨_, _, _, _, rfl⟩, (k'.trans k1).trans k2, fun y hy => sub y (by simp [hy])⟩⟩
    · rintro i env h2 kk2 hi ⟨k2, z7, rfl⟩ hkk2
      refine ⟨trivial, iD ?_⟩
      simp only [sZ, sS]
      unfold pP
      rw [bB]
      simp only [lOr, cD, lT, lB, lOp, aA, lCB, aa, ak, ao, gZ, gS]
      refine ⟨y, rfl, j.keep (k1.trans k2), fun r2 h3 k3 _ e3 => ?_⟩
      refine alike_js (judged_len y) e3 ((k2.trans k3).at e1) ?_
      simp only [gW, Bool.not_true, Bool.false_eq_true, if_false]
      refine ht h3 ((k1.trans k2).trans k3).all _ (eq_s ?_)
      simp only [decide_true, Bool.true_xor, Bool.not_true, Bool.false_eq_true, if_false]
      try refine cP ?_
      exact hkk2 _ _ ⟨k2.trans k3, _, rfl⟩
theorem lc_bagU {n k b : Nat} {g : EH → Prop} {p : Pat} {te : LT} {env : En} {P : EK} {h : EH} (xs : List EV) (B : bM h b) (hl : xs.length ≤ 1000000) (hg : ∀ h', aD (is1 b) h h' → g h')
    (step : ∀ x ∈ xs, ∀ h' (ky : EK), h.length < h'.length → bM h' b → (∀ v h2, UV (NoAt b h.length) n k h2 v → aD (is1 b) h' h2 → bM h2 b → ky v h2) → ie h' p x env fun env2 => te env2 h' ky)
    (fin : ∀ (vs : List EV) h', vs.length = xs.length → (∀ v ∈ vs, UV (NoAt b h.length) n k h' v) → bM h' b → h'[h.length]? = some (.lst vs) → P (.ref h.length) h') : lcE g p mY te h.length env P xs (h ++ [.lst []]) := by
  have hb := B.lt
  refine lc_ind (fun left acc h' => aD (is1 b) h h' ∧ bM h' b ∧ (∀ v ∈ acc, UV (NoAt b h.length) n k h' v) ∧ acc.length + left.length = xs.length ∧ ∀ x ∈ left, x ∈ xs) ?stop ?turn _ [] _ aV ⟨aD.app _, B.keep (aD.app _), by simp, by simp, fun x hx => hx⟩
  case stop =>
    rintro acc h' ⟨k, B', hv, hn, _⟩ e
    exact ⟨hg _ k, fin acc h' (by simpa using hn) hv B' e⟩
  case turn =>
    rintro x left acc h' ky kn ⟨k, B', hv, hn, hm⟩ e hky hkn
    simp only [List.length_cons] at hn
    refine ⟨hg _ k, ?_⟩
    have q := step x (hm x List.mem_cons_self) h' ky (gK e) B' fun v h2 v1 k2 B2 => hky v h2 (k2.other e (by omega)) (by rw [aN]; omega)
      ⟨(k.trans k2).fresh (Nat.le_refl _), B2.set hb, fun y hy => by
        have ks : aD (NoAt b h.length) h2 (h2.set h.length (.lst (acc ++ [v]))) := aD.set (.inr rfl)
        rcases List.mem_append.mp hy with hy | hy
        · exact ((hv y hy).keep (k2.of1 (.inl rfl))).keep ks
        · rw [List.mem_singleton.mp hy]; exact v1.keep ks, by simp; omega, fun y hy => hm y (List.mem_cons_of_mem _ hy)⟩
    unfold ie at q ⊢
    split at q
    · simpa [mY] using q
    · exact q.elim
theorem pure_law_k11 (ad : Ad) (evs : List EV) (h : EH) (Q : EK) (q : spTop 63 evs h Q) : t_law_k11 ad (aO Q) (bF N_law_k11 evs) h := by
  have sz : sizeLine = 16777216 := aN
  obtain ⟨ns0, rfl, rfl, hl0, q⟩ := q
  show t_law_k11_0 ad (aO Q) [some (.ref 0), none, none, none, none, none, none, none, none, none, none, none, none] _
  unfold t_law_k11_0
  rw [aH, bA]
  refine ⟨ns0, rfl, rfl, hl0, fun b h1 B1 => ?_⟩
  try simp only [sZ, sS]
  unfold t_law_k11_1
  try dsimp only
  rw [aH, bA]
  simp only [lLc, bV, lC, aa, ak]
  refine ⟨⟨by decide, by decide⟩, ?_⟩
  refine lc_bagU (n := 7) (k := 5000) (j5 0 12) B1 (by simp [j5]) (fun _ _ => trivial) (fun v hv h' ky hl B' hy => iD ?_) fun vs h2 lv uv B2 e2 => ?_
  · simp only [sZ, sS, bJ, aA, aa, ak, ao, gZ, gS]
    have bl := B'.lt
    have hb1 := B1.lt
    exact drawn B' (fun r z => by rcases z with rfl | rfl <;> omega) (by decide) (by decide) hy
  have bt : b < h1.length := B1.lt
  generalize h1.length = t at uv e2 bt ⊢
  have tb : t ≠ b := by omega
  have lv : vs.length = 12 := by rw [lv]; simp [j5]
  simp only [sZ, sS]
  unfold t_law_k11_2
  try dsimp only
  rw [aH, gj]
  simp only [bV, lC, aa, ak]
  refine ⟨⟨by decide, by decide⟩, ?_⟩
  refine loop_nat 14 (fun i env h' => bM h' b ∧ ∃ x3 x4 ys, env = [some (.ref 0), some (.ref b), some (.ref t), x3, x4, none, none, none, none, none, none, none, none] ∧ h'[t]? = some (.lst ys) ∧ ys.length = 12 + 2 * i ∧ ∀ y ∈ ys, UV (NoAt b t) 7 5000 h' y) ?_ ?_ _ _ ⟨B2, _, _, vs, rfl, e2, lv, uv⟩
  · rintro env h3 ⟨B3, x3, x4, ys, rfl, e3, l3, u3⟩
    exact ⟨trivial, each_k11 B3 e3 u3 fun h' => q h'⟩
  · rintro i env h3 kk hi ⟨B3, x3, x4, ys, rfl, e3, l3, u3⟩ hkk
    refine ⟨trivial, iD ?_⟩
    simp only [sZ, sS]
    unfold t_law_k11_2b_0
    rw [aH, bA]
    simp only [aA, lC, aa, ak, ao, gZ, gS]
    refine ⟨b, rfl, B3, fun v h4 gv k4 B4 => ?_⟩
    have e4 := k4.other e3 tb
    simp only [sZ, sS]
    unfold t_law_k11_2b_1
    try dsimp only
    rw [dh]
    simp only [lBM, aU, aA, lC, aa, ak, ao, gZ, gS]
    refine ⟨by simp only [isTy, e4], ?_⟩
    have hb4 := B4.lt
    have ht4 := gK e4
    have n4 : ∀ r, NoAt b t r → r < h4.length := fun r z => by rcases z with rfl | rfl <;> omega
    have lb : LB 3 v := by
      have up : ∀ n (v : EV), LB (n + 1) v → LB n v := by
        intro n
        induction n with
        | zero => exact fun _ _ => trivial
        | succ n ih => exact fun v z xs e => ⟨(z xs e).1, fun x hx => ih x ((z xs e).2 x hx)⟩
      exact up 3 v gv.2
    refine (show bU ad (11 + 1) [.ref b, v, .int (3 : Nat)] h4 _ from ⟨b, v, 3, 7, 4000, NoAt b t, rfl, by decide, B4, .inl rfl, n4, by decide, by decide, (gv.1 _ _).mono (fun _ z => z) (by decide) (Nat.le_refl _), lb, fun u h5 u5 k5 B5 => ⟨by rw [sz]; simp, ?_⟩⟩)
    have e5 := k5.other e4 tb
    have tl := gK e5
    have e6 : (h5 ++ [EO.lst [v, u]])[t]? = some (.lst ys) := dG e5 _
    simp only [extendE, onList, e6, aV]
    refine ⟨by simp only [List.length_cons, List.length_nil]; omega, ?_⟩
    try refine cP ?_
    refine hkk _ _ ⟨(B5.keep (aD.app _)).set bt, _, _, ys ++ [v, u], rfl, set_at e6, by simp only [List.length_append, List.length_cons, List.length_nil]; omega, fun y hy => ?_⟩
    have ks : aD (NoAt b t) (h5 ++ [EO.lst [v, u]]) ((h5 ++ [EO.lst [v, u]]).set t (.lst (ys ++ [v, u]))) := aD.set (.inr rfl)
    have ka : aD (NoAt b t) h5 (h5 ++ [EO.lst [v, u]]) := aD.app _
    rcases List.mem_append.mp hy with hy | hy
    · exact ((u3 y hy).keep ((k4.trans k5).of1 (.inl rfl))).keep (ka.trans ks)
    · simp only [List.mem_cons, List.not_mem_nil, or_false] at hy
      rcases hy with rfl | rfl
      · exact (gv.1 _ _).mono (fun _ z => z) (by decide) (by decide)
      · exact (u5.keep (ka.trans ks)).mono (fun _ z => z) (Nat.le_refl _) (by decide)
abbrev FnP (K : PySem.W.Frag) (x q : Str) (st : Stmt) (f : Addr) (fd : FuncData) : Prop := FunD K x q (defArgs st) (defBody st) (defScope st) [] [] f fd
structure Fs (w : World) (K : PySem.W.Frag) (mg : Str → Option Value) : Type where
  ad : Ad
  f_is_integer : Addr
  d_is_integer : FuncData
  iy : FnP K "is_integer" "is_integer" fJ f_is_integer d_is_integer
  g_is_integer : mg "is_integer" = some (.ref f_is_integer)
  f_is_between : Addr
  d_is_between : FuncData
  cI : FnP K "is_between" "is_between" fD f_is_between d_is_between
  lE : mg "is_between" = some (.ref f_is_between)
  f_is_letter : Addr
  d_is_letter : FuncData
  fM : FnP K "is_letter" "is_letter" il f_is_letter d_is_letter
  g_is_letter : mg "is_letter" = some (.ref f_is_letter)
  f_is_text : Addr
  d_is_text : FuncData
  lY : FnP K "is_text" "is_text" jB f_is_text d_is_text
  g_is_text : mg "is_text" = some (.ref f_is_text)
  f_is_side : Addr
  d_is_side : FuncData
  F_is_side : FnP K "is_side" "is_side" j8 f_is_side d_is_side
  g_is_side : mg "is_side" = some (.ref f_is_side)
  f_is_script : Addr
  d_is_script : FuncData
  mZ : FnP K "is_script" "is_script" fX f_is_script d_is_script
  g_is_script : mg "is_script" = some (.ref f_is_script)
  f_is_promise : Addr
  d_is_promise : FuncData
  lQ : FnP K "is_promise" "is_promise" fZ f_is_promise d_is_promise
  g_is_promise : mg "is_promise" = some (.ref f_is_promise)
  f_is_pair : Addr
  d_is_pair : FuncData
  F_is_pair : FnP K "is_pair" "is_pair" jE f_is_pair d_is_pair
  g_is_pair : mg "is_pair" = some (.ref f_is_pair)
  qu : Addr
  d_is_going_on : FuncData
  jT : FnP K "is_going_on" "is_going_on" dH qu d_is_going_on
  g_is_going_on : mg "is_going_on" = some (.ref qu)
  f_are_costs : Addr
  d_are_costs : FuncData
  mX : FnP K "are_costs" "are_costs" fW f_are_costs d_are_costs
  g_are_costs : mg "are_costs" = some (.ref f_are_costs)
  mF : Addr
  d_is_price_table : FuncData
  gU : FnP K "is_price_table" "is_price_table" cG mF d_is_price_table
  g_is_price_table : mg "is_price_table" = some (.ref mF)
  lV : Addr
  pU : FuncData
  cY : FnP K "__init__" "Prices.__init__" bR lV pU
  k_Prices : Mk K ad.a_Prices lV
  i_Prices : IsiOk K ad.a_Prices
  f__law_bag : Addr
  d__law_bag : FuncData
  oM : FnP K "_law_bag" "_law_bag" iz f__law_bag d__law_bag
  g__law_bag : mg "_law_bag" = some (.ref f__law_bag)
  f__law_take : Addr
  d__law_take : FuncData
  aX : FnP K "_law_take" "_law_take" ir f__law_take d__law_take
  du : mg "_law_take" = some (.ref f__law_take)
  f__law_one : Addr
  d__law_one : FuncData
  bh : FnP K "_law_one" "_law_one" jx f__law_one d__law_one
  dF : mg "_law_one" = some (.ref f__law_one)
  f__law_mixed : Addr
  d__law_mixed : FuncData
  lM : FnP K "_law_mixed" "_law_mixed" fG f__law_mixed d__law_mixed
  g__law_mixed : mg "_law_mixed" = some (.ref f__law_mixed)
  nD : Addr
  d__law_alphabet : FuncData
  iT : FnP K "_law_alphabet" "_law_alphabet" di nD d__law_alphabet
  g__law_alphabet : mg "_law_alphabet" = some (.ref nD)
  f__law_text : Addr
  d__law_text : FuncData
  fO : FnP K "_law_text" "_law_text" fK f__law_text d__law_text
  g__law_text : mg "_law_text" = some (.ref f__law_text)
  f__law_pair : Addr
  d__law_pair : FuncData
  nu : FnP K "_law_pair" "_law_pair" ig f__law_pair d__law_pair
  g__law_pair : mg "_law_pair" = some (.ref f__law_pair)
  oH : Addr
  d__law_promise : FuncData
  jw : FnP K "_law_promise" "_law_promise" dN oH d__law_promise
  g__law_promise : mg "_law_promise" = some (.ref oH)
  f__law_alike : Addr
  d__law_alike : FuncData
  d8 : FnP K "_law_alike" "_law_alike" fL f__law_alike d__law_alike
  g__law_alike : mg "_law_alike" = some (.ref f__law_alike)
  oO : Addr
  d__law_integer : FuncData
  bW : FnP K "_law_integer" "_law_integer" dM oO d__law_integer
  lN : mg "_law_integer" = some (.ref oO)
  ql : Addr
  d__law_letter : FuncData
  gA : FnP K "_law_letter" "_law_letter" eE ql d__law_letter
  g__law_letter : mg "_law_letter" = some (.ref ql)
  o5 : Addr
  d__law_is_text : FuncData
  eU : FnP K "_law_is_text" "_law_is_text" cW o5 d__law_is_text
  g__law_is_text : mg "_law_is_text" = some (.ref o5)
  mH : Addr
  d__law_is_script : FuncData
  gM : FnP K "_law_is_script" "_law_is_script" cH mH d__law_is_script
  g__law_is_script : mg "_law_is_script" = some (.ref mH)
  oK : Addr
  d__law_is_side : FuncData
  jo : FnP K "_law_is_side" "_law_is_side" dR oK d__law_is_side
  g__law_is_side : mg "_law_is_side" = some (.ref oK)
  oV : Addr
  d__law_is_pair : FuncData
  ju : FnP K "_law_is_pair" "_law_is_pair" cZ oV d__law_is_pair
  g__law_is_pair : mg "_law_is_pair" = some (.ref oV)
  lU : Addr
  ph : FuncData
  fP : FnP K "_law_is_promise" "_law_is_promise" cM lU ph
  g__law_is_promise : mg "_law_is_promise" = some (.ref lU)
  j7 : Addr
  oR : FuncData
  eX : FnP K "_law_is_going_on" "_law_is_going_on" bL j7 oR
  g__law_is_going_on : mg "_law_is_going_on" = some (.ref j7)
  f__law_dues : Addr
  d__law_dues : FuncData
  jm : FnP K "_law_dues" "_law_dues" gY f__law_dues d__law_dues
  g__law_dues : mg "_law_dues" = some (.ref f__law_dues)
  f__law_tolds : Addr
  d__law_tolds : FuncData
  dZ : FnP K "_law_tolds" "_law_tolds" fV f__law_tolds d__law_tolds
  g__law_tolds : mg "_law_tolds" = some (.ref f__law_tolds)
  f__law_plain : Addr
  d__law_plain : FuncData
  cX : FnP K "_law_plain" "_law_plain" fU f__law_plain d__law_plain
  oA : mg "_law_plain" = some (.ref f__law_plain)
  f__law_good : Addr
  d__law_good : FuncData
  nj : FnP K "_law_good" "_law_good" fH f__law_good d__law_good
  g__law_good : mg "_law_good" = some (.ref f__law_good)
  mW : Addr
  pG : FuncData
  jr : FnP K "_law_bent" "_law_bent" g8 mW pG
  g__law_bent : mg "_law_bent" = some (.ref mW)
  f_law : Addr
  d_law : FuncData
  F_law : FnP K "law" "law" s_law f_law d_law
  g_law : mg "law" = some (.ref f_law)
  g_Prices : mg "Prices" = some (.ref ad.a_Prices)
  sc_Prices : SlX.SCls K ad.a_Prices
  s_Prices_its_costs : ∃ p, SlX.Slot1 K ad.a_Prices "its_costs" p 0
  sysk : SysK K
  n_abs : mg "abs" = none
  n_all : mg "all" = none
  n_bool : mg "bool" = none
  n_dict : mg "dict" = none
  n_int : mg "int" = none
  n_isinstance : mg "isinstance" = none
  n_len : mg "len" = none
  n_list : mg "list" = none
  n_min : mg "min" = none
  n_range : mg "range" = none
  n_repr : mg "repr" = none
  n_sorted : mg "sorted" = none
  n_str : mg "str" = none
  n_tuple : mg "tuple" = none
  c_GREATEST_LAG : ∃ t, mg "GREATEST_LAG" = some (.int 4 t)
  c_GREATEST_LETTER : ∃ t, mg "GREATEST_LETTER" = some (.int 1000000000 t)
  c_GREATEST_OF_PAIR : ∃ t, mg "GREATEST_OF_PAIR" = some (.int 3 t)
  c_GREATEST_PRICE : ∃ t, mg "GREATEST_PRICE" = some (.int 9 t)
  c_GREATEST_TOTAL : ∃ t, mg "GREATEST_TOTAL" = some (.int 60 t)
  a_PLAIN : Addr
  g_PLAIN : mg "PLAIN" = some (.ref a_PLAIN)
  T_PLAIN : KTup K a_PLAIN [.int 1, .int 1]
  a_SIDE_WORDS : Addr
  g_SIDE_WORDS : mg "SIDE_WORDS" = some (.ref a_SIDE_WORDS)
  T_SIDE_WORDS : KTup K a_SIDE_WORDS [.str [108, 101, 102, 116], .str [114, 105, 103, 104, 116]]
  c_STEPS : ∃ t, mg "STEPS" = some (.str (S [107, 100, 112]) t)
theorem sc_is_integer : FnScope M_is_integer ["thing"] (defScope fJ) := ⟨rfl, rfl, rfl, by decide +kernel, rfl, by decide +kernel, by decide +kernel⟩
theorem b_is_integer {K : PySem.W.Frag} {f : Addr} {fd : FuncData} (F : FnP K "is_integer" "is_integer" fJ f fd) : Binds K fd ["thing"] [] := F.bindsN fun _ _ _ _ _ _ us hl => match us, hl with | [_], _ => rfl
theorem sc_is_between : FnScope M_is_between ["thing", "low", "high"] (defScope fD) := ⟨rfl, rfl, rfl, by decide +kernel, rfl, by decide +kernel, by decide +kernel⟩
theorem lJ {K : PySem.W.Frag} {f : Addr} {fd : FuncData} (F : FnP K "is_between" "is_between" fD f fd) : Binds K fd ["thing", "low", "high"] [] := F.bindsN fun _ _ _ _ _ _ us hl => match us, hl with | [_, _, _], _ => rfl
theorem sc_is_letter : FnScope M_is_letter ["thing"] (defScope il) := ⟨rfl, rfl, rfl, by decide +kernel, rfl, by decide +kernel, by decide +kernel⟩
theorem b_is_letter {K : PySem.W.Frag} {f : Addr} {fd : FuncData} (F : FnP K "is_letter" "is_letter" il f fd) : Binds K fd ["thing"] [] := F.bindsN fun _ _ _ _ _ _ us hl => match us, hl with | [_], _ => rfl
theorem sc_is_text : FnScope M_is_text ["thing"] (defScope jB) := ⟨rfl, rfl, rfl, by decide +kernel, rfl, by decide +kernel, by decide +kernel⟩
theorem b_is_text {K : PySem.W.Frag} {f : Addr} {fd : FuncData} (F : FnP K "is_text" "is_text" jB f fd) : Binds K fd ["thing"] [] := F.bindsN fun _ _ _ _ _ _ us hl => match us, hl with | [_], _ => rfl
theorem sc_is_side : FnScope M_is_side ["thing"] (defScope j8) := ⟨rfl, rfl, rfl, by decide +kernel, rfl, by decide +kernel, by decide +kernel⟩
theorem b_is_side {K : PySem.W.Frag} {f : Addr} {fd : FuncData} (F : FnP K "is_side" "is_side" j8 f fd) : Binds K fd ["thing"] [] := F.bindsN fun _ _ _ _ _ _ us hl => match us, hl with | [_], _ => rfl
theorem sc_is_script : FnScope M_is_script ["thing"] (defScope fX) := ⟨rfl, rfl, rfl, by decide +kernel, rfl, by decide +kernel, by decide +kernel⟩
theorem b_is_script {K : PySem.W.Frag} {f : Addr} {fd : FuncData} (F : FnP K "is_script" "is_script" fX f fd) : Binds K fd ["thing"] [] := F.bindsN fun _ _ _ _ _ _ us hl => match us, hl with | [_], _ => rfl
theorem sc_is_promise : FnScope M_is_promise ["thing"] (defScope fZ) := ⟨rfl, rfl, rfl, by decide +kernel, rfl, by decide +kernel, by decide +kernel⟩
theorem b_is_promise {K : PySem.W.Frag} {f : Addr} {fd : FuncData} (F : FnP K "is_promise" "is_promise" fZ f fd) : Binds K fd ["thing"] [] := F.bindsN fun _ _ _ _ _ _ us hl => match us, hl with | [_], _ => rfl
theorem sc_is_pair : FnScope M_is_pair ["thing"] (defScope jE) := ⟨rfl, rfl, rfl, by decide +kernel, rfl, by decide +kernel, by decide +kernel⟩
theorem b_is_pair {K : PySem.W.Frag} {f : Addr} {fd : FuncData} (F : FnP K "is_pair" "is_pair" jE f fd) : Binds K fd ["thing"] [] := F.bindsN fun _ _ _ _ _ _ us hl => match us, hl with | [_], _ => rfl
theorem oG : FnScope qw ["thing"] (defScope dH) := ⟨rfl, rfl, rfl, by decide +kernel, rfl, by decide +kernel, by decide +kernel⟩
theorem b_is_going_on {K : PySem.W.Frag} {f : Addr} {fd : FuncData} (F : FnP K "is_going_on" "is_going_on" dH f fd) : Binds K fd ["thing"] [] := F.bindsN fun _ _ _ _ _ _ us hl => match us, hl with | [_], _ => rfl
theorem sc_are_costs : FnScope M_are_costs ["thing"] (defScope fW) := ⟨rfl, rfl, rfl, by decide +kernel, rfl, by decide +kernel, by decide +kernel⟩
theorem b_are_costs {K : PySem.W.Frag} {f : Addr} {fd : FuncData} (F : FnP K "are_costs" "are_costs" fW f fd) : Binds K fd ["thing"] [] := F.bindsN fun _ _ _ _ _ _ us hl => match us, hl with | [_], _ => rfl
theorem je : FnScope mG ["thing"] (defScope cG) := ⟨rfl, rfl, rfl, by decide +kernel, rfl, by decide +kernel, by decide +kernel⟩
theorem b_is_price_table {K : PySem.W.Frag} {f : Addr} {fd : FuncData} (F : FnP K "is_price_table" "is_price_table" cG f fd) : Binds K fd ["thing"] [] := F.bindsN fun _ _ _ _ _ _ us hl => match us, hl with | [_], _ => rfl
theorem jY : FnScope j9 ["self", "table"] (defScope bR) := ⟨rfl, rfl, rfl, by decide +kernel, rfl, by decide +kernel, by decide +kernel⟩
theorem jh {K : PySem.W.Frag} {f : Addr} {fd : FuncData} (F : FnP K "__init__" "Prices.__init__" bR f fd) : Binds K fd ["self", "table"] [] := F.bindsN fun _ _ _ _ _ _ us hl => match us, hl with | [_, _], _ => rfl
theorem sc__law_bag : FnScope M__law_bag ["_law_script"] (defScope iz) := ⟨rfl, rfl, rfl, by decide +kernel, rfl, by decide +kernel, by decide +kernel⟩
theorem b__law_bag {K : PySem.W.Frag} {f : Addr} {fd : FuncData} (F : FnP K "_law_bag" "_law_bag" iz f fd) : Binds K fd ["_law_script"] [] := F.bindsN fun _ _ _ _ _ _ us hl => match us, hl with | [_], _ => rfl
theorem jD : FnScope M__law_take ["_law_bag_here", "_law_many"] (defScope ir) := ⟨rfl, rfl, rfl, by decide +kernel, rfl, by decide +kernel, by decide +kernel⟩
theorem dw {K : PySem.W.Frag} {f : Addr} {fd : FuncData} (F : FnP K "_law_take" "_law_take" ir f fd) : Binds K fd ["_law_bag_here", "_law_many"] [] := F.bindsN fun _ _ _ _ _ _ us hl => match us, hl with | [_, _], _ => rfl
theorem sc__law_one : FnScope M__law_one ["_law_bag_here", "_law_some"] (defScope jx) := ⟨rfl, rfl, rfl, by decide +kernel, rfl, by decide +kernel, by decide +kernel⟩
theorem dD {K : PySem.W.Frag} {f : Addr} {fd : FuncData} (F : FnP K "_law_one" "_law_one" jx f fd) : Binds K fd ["_law_bag_here", "_law_some"] [] := F.bindsN fun _ _ _ _ _ _ us hl => match us, hl with | [_, _], _ => rfl
theorem qm : FnScope M__law_mixed ["_law_bag_here", "_law_things"] (defScope fG) := ⟨rfl, rfl, rfl, by decide +kernel, rfl, by decide +kernel, by decide +kernel⟩
theorem b__law_mixed {K : PySem.W.Frag} {f : Addr} {fd : FuncData} (F : FnP K "_law_mixed" "_law_mixed" fG f fd) : Binds K fd ["_law_bag_here", "_law_things"] [] := F.bindsN fun _ _ _ _ _ _ us hl => match us, hl with | [_, _], _ => rfl
theorem sc__law_alphabet : FnScope M__law_alphabet ["_law_bag_here"] (defScope di) := ⟨rfl, rfl, rfl, by decide +kernel, rfl, by decide +kernel, by decide +kernel⟩
theorem b__law_alphabet {K : PySem.W.Frag} {f : Addr} {fd : FuncData} (F : FnP K "_law_alphabet" "_law_alphabet" di f fd) : Binds K fd ["_law_bag_here"] [] := F.bindsN fun _ _ _ _ _ _ us hl => match us, hl with | [_], _ => rfl
theorem sc__law_text : FnScope M__law_text ["_law_bag_here", "_law_letters", "_law_most"] (defScope fK) := ⟨rfl, rfl, rfl, by decide +kernel, rfl, by decide +kernel, by decide +kernel⟩
theorem b__law_text {K : PySem.W.Frag} {f : Addr} {fd : FuncData} (F : FnP K "_law_text" "_law_text" fK f fd) : Binds K fd ["_law_bag_here", "_law_letters", "_law_most"] [] := F.bindsN fun _ _ _ _ _ _ us hl => match us, hl with | [_, _, _], _ => rfl
theorem sc__law_pair : FnScope M__law_pair ["_law_bag_here"] (defScope ig) := ⟨rfl, rfl, rfl, by decide +kernel, rfl, by decide +kernel, by decide +kernel⟩
theorem b__law_pair {K : PySem.W.Frag} {f : Addr} {fd : FuncData} (F : FnP K "_law_pair" "_law_pair" ig f fd) : Binds K fd ["_law_bag_here"] [] := F.bindsN fun _ _ _ _ _ _ us hl => match us, hl with | [_], _ => rfl
theorem sc__law_promise : FnScope M__law_promise ["_law_bag_here"] (defScope dN) := ⟨rfl, rfl, rfl, by decide +kernel, rfl, by decide +kernel, by decide +kernel⟩
theorem b__law_promise {K : PySem.W.Frag} {f : Addr} {fd : FuncData} (F : FnP K "_law_promise" "_law_promise" dN f fd) : Binds K fd ["_law_bag_here"] [] := F.bindsN fun _ _ _ _ _ _ us hl => match us, hl with | [_], _ => rfl
theorem sc__law_alike : FnScope M__law_alike ["_law_found", "_law_due"] (defScope fL) := ⟨rfl, rfl, rfl, by decide +kernel, rfl, by decide +kernel, by decide +kernel⟩
theorem b__law_alike {K : PySem.W.Frag} {f : Addr} {fd : FuncData} (F : FnP K "_law_alike" "_law_alike" fL f fd) : Binds K fd ["_law_found", "_law_due"] [] := F.bindsN fun _ _ _ _ _ _ us hl => match us, hl with | [_, _], _ => rfl
theorem sc__law_integer : FnScope M__law_integer ["_law_thing"] (defScope dM) := ⟨rfl, rfl, rfl, by decide +kernel, rfl, by decide +kernel, by decide +kernel⟩
theorem km {K : PySem.W.Frag} {f : Addr} {fd : FuncData} (F : FnP K "_law_integer" "_law_integer" dM f fd) : Binds K fd ["_law_thing"] [] := F.bindsN fun _ _ _ _ _ _ us hl => match us, hl with | [_], _ => rfl
theorem sc__law_letter : FnScope M__law_letter ["_law_thing"] (defScope eE) := ⟨rfl, rfl, rfl, by decide +kernel, rfl, by decide +kernel, by decide +kernel⟩
theorem b__law_letter {K : PySem.W.Frag} {f : Addr} {fd : FuncData} (F : FnP K "_law_letter" "_law_letter" eE f fd) : Binds K fd ["_law_thing"] [] := F.bindsN fun _ _ _ _ _ _ us hl => match us, hl with | [_], _ => rfl
theorem nA : FnScope oJ ["_law_thing"] (defScope cW) := ⟨rfl, rfl, rfl, by decide +kernel, rfl, by decide +kernel, by decide +kernel⟩
theorem b__law_is_text {K : PySem.W.Frag} {f : Addr} {fd : FuncData} (F : FnP K "_law_is_text" "_law_is_text" cW f fd) : Binds K fd ["_law_thing"] [] := F.bindsN fun _ _ _ _ _ _ us hl => match us, hl with | [_], _ => rfl
theorem lG : FnScope mj ["_law_thing"] (defScope cH) := ⟨rfl, rfl, rfl, by decide +kernel, rfl, by decide +kernel, by decide +kernel⟩
theorem b__law_is_script {K : PySem.W.Frag} {f : Addr} {fd : FuncData} (F : FnP K "_law_is_script" "_law_is_script" cH f fd) : Binds K fd ["_law_thing"] [] := F.bindsN fun _ _ _ _ _ _ us hl => match us, hl with | [_], _ => rfl
theorem sc__law_is_side : FnScope M__law_is_side ["_law_thing"] (defScope dR) := ⟨rfl, rfl, rfl, by decide +kernel, rfl, by decide +kernel, by decide +kernel⟩
theorem b__law_is_side {K : PySem.W.Frag} {f : Addr} {fd : FuncData} (F : FnP K "_law_is_side" "_law_is_side" dR f fd) : Binds K fd ["_law_thing"] [] := F.bindsN fun _ _ _ _ _ _ us hl => match us, hl with | [_], _ => rfl
theorem nH : FnScope oX ["_law_thing"] (defScope cZ) := ⟨rfl, rfl, rfl, by decide +kernel, rfl, by decide +kernel, by decide +kernel⟩
theorem b__law_is_pair {K : PySem.W.Frag} {f : Addr} {fd : FuncData} (F : FnP K "_law_is_pair" "_law_is_pair" cZ f fd) : Binds K fd ["_law_thing"] [] := F.bindsN fun _ _ _ _ _ _ us hl => match us, hl with | [_], _ => rfl
theorem sc__law_is_promise : FnScope pO ["_law_thing"] (defScope cM) := ⟨rfl, rfl, rfl, by decide +kernel, rfl, by decide +kernel, by decide +kernel⟩
theorem b__law_is_promise {K : PySem.W.Frag} {f : Addr} {fd : FuncData} (F : FnP K "_law_is_promise" "_law_is_promise" cM f fd) : Binds K fd ["_law_thing"] [] := F.bindsN fun _ _ _ _ _ _ us hl => match us, hl with | [_], _ => rfl
theorem jO : FnScope jZ ["_law_thing"] (defScope bL) := ⟨rfl, rfl, rfl, by decide +kernel, rfl, by decide +kernel, by decide +kernel⟩
theorem b__law_is_going_on {K : PySem.W.Frag} {f : Addr} {fd : FuncData} (F : FnP K "_law_is_going_on" "_law_is_going_on" bL f fd) : Binds K fd ["_law_thing"] [] := F.bindsN fun _ _ _ _ _ _ us hl => match us, hl with | [_], _ => rfl
theorem sc__law_dues : FnScope M__law_dues ["_law_thing"] (defScope gY) := ⟨rfl, rfl, rfl, by decide +kernel, rfl, by decide +kernel, by decide +kernel⟩
theorem b__law_dues {K : PySem.W.Frag} {f : Addr} {fd : FuncData} (F : FnP K "_law_dues" "_law_dues" gY f fd) : Binds K fd ["_law_thing"] [] := F.bindsN fun _ _ _ _ _ _ us hl => match us, hl with | [_], _ => rfl
theorem sc__law_tolds : FnScope M__law_tolds ["_law_thing"] (defScope fV) := ⟨rfl, rfl, rfl, by decide +kernel, rfl, by decide +kernel, by decide +kernel⟩
theorem b__law_tolds {K : PySem.W.Frag} {f : Addr} {fd : FuncData} (F : FnP K "_law_tolds" "_law_tolds" fV f fd) : Binds K fd ["_law_thing"] [] := F.bindsN fun _ _ _ _ _ _ us hl => match us, hl with | [_], _ => rfl
theorem d9 : FnScope M__law_plain [] (defScope fU) := ⟨rfl, rfl, rfl, by decide +kernel, rfl, by decide +kernel, by decide +kernel⟩
theorem nY {K : PySem.W.Frag} {f : Addr} {fd : FuncData} (F : FnP K "_law_plain" "_law_plain" fU f fd) : Binds K fd [] [] := F.bindsN fun _ _ _ _ _ _ us hl => match us, hl with | [], _ => rfl
theorem oE : FnScope M__law_good ["_law_bag_here"] (defScope fH) := ⟨rfl, rfl, rfl, by decide +kernel, rfl, by decide +kernel, by decide +kernel⟩
theorem b__law_good {K : PySem.W.Frag} {f : Addr} {fd : FuncData} (F : FnP K "_law_good" "_law_good" fH f fd) : Binds K fd ["_law_bag_here"] [] := F.bindsN fun _ _ _ _ _ _ us hl => match us, hl with | [_], _ => rfl
theorem lL : FnScope M__law_bent ["_law_bag_here", "_law_thing", "_law_depth"] (defScope g8) := ⟨rfl, rfl, rfl, by decide +kernel, rfl, by decide +kernel, by decide +kernel⟩
theorem b__law_bent {K : PySem.W.Frag} {f : Addr} {fd : FuncData} (F : FnP K "_law_bent" "_law_bent" g8 f fd) : Binds K fd ["_law_bag_here", "_law_thing", "_law_depth"] [] := F.bindsN fun _ _ _ _ _ _ us hl => match us, hl with | [_, _, _], _ => rfl
theorem lO : FnScope M_law ["_law_script"] (defScope s_law) := ⟨rfl, rfl, rfl, by decide +kernel, rfl, by decide +kernel, by decide +kernel⟩
section
variable {P : Program} {w : World} {K : PySem.W.Frag} {mg : Str → Option Value} {base : Heap}
abbrev AD (A : Around) (q : Str) (S : Stmt) (s : Shared) (f : Addr) (cdv : Value) : Around := A.deeper (envOfC q (defScope S) s.heap.objs.size f cdv)
abbrev HY (k : Nat) (A : Around) (q : Str) (S : Stmt) (s : Shared) (f : Addr) (cdv : Value) : Prop := Room k (AD A q S s f cdv) ∧ (AD A q S s f cdv).guards = some []
abbrev LD (P : Program) (w : World) (K : PySem.W.Frag) (mg : Str → Option Value) (base : Heap) (M : List Str) (q : Str) (S : Stmt) (f : Addr) (cdv : Value) (A : Around) (outer : List Env) (s : Shared) (H : Hp) (t : LS) : Prop := LSs (cxOf CX0 P w K mg base M q (defScope S) f cdv A outer s H E0).nox (defBody S) t
variable (T : Fs w K mg) {f : Addr} {cdv : Value} {A : Around} {outer : List Env} {s : Shared} {H : Hp}
theorem der_is_integer (hy : HY 0 A "is_integer" fJ s f cdv) : LD P w K mg base M_is_integer "is_integer" fJ f cdv A outer s H (kh T.ad) :=
    aK (aZ (iw (aQ eY rfl T.n_isinstance boot_isinstance (aj (au 0) (aj (eZ "int" rfl T.n_int boot_int) (aq)))) (jL (le_not (aQ eY rfl T.n_isinstance boot_isinstance (aj (au 0) (aj (eZ "bool" rfl T.n_bool boot_bool) (aq))))))))
theorem ok_is_integer : FnG P w K mg base 1 T.f_is_integer T.d_is_integer ["thing"] (cC T.ad) :=
  bZ T.iy sc_is_integer (len_is_integer T.ad) fun cdv A outer s H hr hG => ⟨_, der_is_integer T ⟨hr, hG⟩, pure_is_integer T.ad⟩
theorem der_is_between (hy : HY 1 A "is_between" fD s f cdv) : LD P w K mg base M_is_between "is_between" fD f cdv A outer s H (oF T.ad) :=
    aK (aZ (iw (aF (ok_is_integer T) (hy.1.mono (by decide)) hy.2 rfl T.g_is_integer T.iy.kp (b_is_integer T.iy) (aj (au 0) (aq))) (jL (le_chain lo_le lo_le (au 1) (au 0) (au 2)))))
theorem jR : FnG P w K mg base 2 T.f_is_between T.d_is_between ["thing", "low", "high"] (dI T.ad) :=
  bZ T.cI sc_is_between (len_is_between T.ad) fun cdv A outer s H hr hG => ⟨_, der_is_between T ⟨hr, hG⟩, pure_is_between T.ad⟩
theorem der_is_letter (hy : HY 2 A "is_letter" il s f cdv) : LD P w K mg base M_is_letter "is_letter" il f cdv A outer s H (pF T.ad) :=
    aK (aZ (aF (jR T) (hy.1.mono (by decide)) hy.2 rfl T.lE T.cI.kp (lJ T.cI) (aj (au 0) (aj (le_int) (aj (le_gint 1000000000 rfl T.c_GREATEST_LETTER) (aq))))))
theorem ok_is_letter : FnG P w K mg base 3 T.f_is_letter T.d_is_letter ["thing"] (jC T.ad) :=
  bZ T.fM sc_is_letter (len_is_letter T.ad) fun cdv A outer s H hr hG => ⟨_, der_is_letter T ⟨hr, hG⟩, pure_is_letter T.ad⟩
theorem der_is_text (hy : HY 3 A "is_text" jB s f cdv) : LD P w K mg base M_is_text "is_text" jB f cdv A outer s H (mU T.ad) :=
    aK (aZ (iw (aQ eY rfl T.n_isinstance boot_isinstance (aj (au 0) (aj (eZ "tuple" rfl T.n_tuple boot_tuple) (aq)))) (jL (aQ (lc_all rfl) rfl T.n_all boot_all (aj (le_lc [("one", 1)] rfl sc_is_text.nd (iH (au 0)) (blkOk_by (N := M_is_text) (sc := defScope jB) (by decide +kernel)) (by decide) (fun _ _ _ _ _ => dB 1 sc_is_text.nd) (fun _ _ _ _ _ => mK) (fun _ _ _ _ _ => aF (ok_is_letter T) (hy.1.mono (by decide)) hy.2 rfl T.g_is_letter T.fM.kp (b_is_letter T.fM) (aj (au 1) (aq)))) (aq))))))
theorem ok_is_text : FnG P w K mg base 4 T.f_is_text T.d_is_text ["thing"] (jk T.ad) :=
  bZ T.lY sc_is_text (len_is_text_k94 T.ad) fun cdv A outer s H hr hG => ⟨_, der_is_text T ⟨hr, hG⟩, pure_is_text_k94 T.ad⟩
theorem der_is_side (hy : HY 0 A "is_side" j8 s f cdv) : LD P w K mg base M_is_side "is_side" j8 f cdv A outer s H (mQ T.ad) :=
    aK (aZ (iw (aQ eY rfl T.n_isinstance boot_isinstance (aj (au 0) (aj (eZ "str" rfl T.n_str boot_str) (aq)))) (jL (jn (lo_in (u65 hy.1)) (au 0) (le_gtup T.T_SIDE_WORDS rfl T.g_SIDE_WORDS)))))
theorem ok_is_side : FnG P w K mg base 1 T.f_is_side T.d_is_side ["thing"] (kJ T.ad) :=
  bZ T.F_is_side sc_is_side (len_is_side_k11 T.ad) fun cdv A outer s H hr hG => ⟨_, der_is_side T ⟨hr, hG⟩, pure_is_side_k11 T.ad⟩
theorem der_is_script (hy : HY 0 A "is_script" fX s f cdv) : LD P w K mg base M_is_script "is_script" fX f cdv A outer s H (pJ T.ad) :=
    aK (aZ (iw (aQ eY rfl T.n_isinstance boot_isinstance (aj (au 0) (aj (eZ "str" rfl T.n_str boot_str) (aq)))) (jL (aQ (lc_all rfl) rfl T.n_all boot_all (aj (le_lc [("sign", 1)] rfl sc_is_script.nd (iH (au 0)) (blkOk_by (N := M_is_script) (sc := defScope fX) (by decide +kernel)) (by decide) (fun _ _ _ _ _ => dB 1 sc_is_script.nd) (fun _ _ _ _ _ => mK) (fun _ _ _ _ _ => jn (lo_in (u65 hy.1)) (au 1) (le_gstr [107, 100, 112] rfl T.c_STEPS))) (aq))))))
theorem ok_is_script : FnG P w K mg base 1 T.f_is_script T.d_is_script ["thing"] (nU T.ad) :=
  bZ T.mZ sc_is_script (len_is_script T.ad) fun cdv A outer s H hr hG => ⟨_, der_is_script T ⟨hr, hG⟩, pure_is_script T.ad⟩
theorem der_is_promise (hy : HY 2 A "is_promise" fZ s f cdv) : LD P w K mg base M_is_promise "is_promise" fZ f cdv A outer s H (jG T.ad) :=
    aJ (fY (LWe.lt (lw_or (jK (dJ (aQ eY rfl T.n_isinstance boot_isinstance (aj (au 0) (aj (eZ "tuple" rfl T.n_tuple boot_tuple) (aq)))))) (lw_or (cR (gD hy.1.units) (aQ j6 rfl T.n_len boot_len (aj (au 0) (aq))) (le_int)) (lw_or1 (jK (dJ (aQ eY rfl T.n_isinstance boot_isinstance (aj (gQ (mD (u1 hy.1)) (au 0) (le_int)) (aj (eZ "str" rfl T.n_str boot_str) (aq))))))))))
      (aK (aZ (lW)))
      (bT)) <|
    aJ (fY (cR (gD hy.1.units) (gQ (mD (u1 hy.1)) (au 0) (le_int)) (le_str [110, 111, 110, 101]))
      (aK (aZ (jn (gD hy.1.units) (aQ j6 rfl T.n_len boot_len (aj (au 0) (aq))) (le_int))))
      (bT)) <|
    aJ (fY (cR (lo_ne hy.1.units) (aQ j6 rfl T.n_len boot_len (aj (au 0) (aq))) (le_int))
      (aK (aZ (lW)))
      (bT)) <|
    aJ (fY (cR (gD hy.1.units) (gQ (mD (u1 hy.1)) (au 0) (le_int)) (le_str [108, 97, 103]))
      (aK (aZ (aF (jR T) (hy.1.mono (by decide)) hy.2 rfl T.lE T.cI.kp (lJ T.cI) (aj (gQ (mD (u1 hy.1)) (au 0) (le_int)) (aj (le_int) (aj (le_gint 4 rfl T.c_GREATEST_LAG) (aq)))))))
      (bT)) <|
    aK (aZ (iw (jn (gD hy.1.units) (gQ (mD (u1 hy.1)) (au 0) (le_int)) (le_str [116, 111, 116, 97, 108])) (jL (aF (jR T) (hy.1.mono (by decide)) hy.2 rfl T.lE T.cI.kp (lJ T.cI) (aj (gQ (mD (u1 hy.1)) (au 0) (le_int)) (aj (le_int) (aj (le_gint 60 rfl T.c_GREATEST_TOTAL) (aq))))))))
theorem ok_is_promise : FnG P w K mg base 3 T.f_is_promise T.d_is_promise ["thing"] (jf T.ad) :=
  bZ T.lQ sc_is_promise (len_is_promise_k26 T.ad) fun cdv A outer s H hr hG => ⟨_, der_is_promise T ⟨hr, hG⟩, pure_is_promise_k26 T.ad⟩
theorem der_is_pair (hy : HY 2 A "is_pair" jE s f cdv) : LD P w K mg base M_is_pair "is_pair" jE f cdv A outer s H (t_is_pair T.ad) :=
    aK (aZ (iw (aQ eY rfl T.n_isinstance boot_isinstance (aj (au 0) (aj (eZ "tuple" rfl T.n_tuple boot_tuple) (aq)))) (iw (jn (gD hy.1.units) (aQ j6 rfl T.n_len boot_len (aj (au 0) (aq))) (le_int)) (jL (aQ (lc_all rfl) rfl T.n_all boot_all (aj (le_lc [("one", 1)] rfl sc_is_pair.nd (iH (au 0)) (blkOk_by (N := M_is_pair) (sc := defScope jE) (by decide +kernel)) (by decide) (fun _ _ _ _ _ => dB 1 sc_is_pair.nd) (fun _ _ _ _ _ => mK) (fun _ _ _ _ _ => aF (jR T) (hy.1.mono (by decide)) hy.2 rfl T.lE T.cI.kp (lJ T.cI) (aj (au 1) (aj (le_int) (aj (le_gint 3 rfl T.c_GREATEST_OF_PAIR) (aq)))))) (aq)))))))
theorem ok_is_pair : FnG P w K mg base 3 T.f_is_pair T.d_is_pair ["thing"] (sp_is_pair T.ad) :=
  bZ T.F_is_pair sc_is_pair (len_is_pair T.ad) fun cdv A outer s H hr hG => ⟨_, der_is_pair T ⟨hr, hG⟩, pure_is_pair T.ad⟩
theorem der_is_going_on (hy : HY 4 A "is_going_on" dH s f cdv) : LD P w K mg base qw "is_going_on" dH f cdv A outer s H (jg T.ad) :=
    aK (aZ (iw (aQ eY rfl T.n_isinstance boot_isinstance (aj (au 0) (aj (eZ "tuple" rfl T.n_tuple boot_tuple) (aq)))) (iw (jn (gD hy.1.units) (aQ j6 rfl T.n_len boot_len (aj (au 0) (aq))) (le_int)) (jL (aQ (lc_all rfl) rfl T.n_all boot_all (aj (le_lc [("one", 1)] rfl oG.nd (iH (au 0)) (blkOk_by (N := qw) (sc := defScope dH) (by decide +kernel)) (by decide) (fun _ _ _ _ _ => dB 1 oG.nd) (fun _ _ _ _ _ => mK) (fun _ _ _ _ _ => aF (ok_is_text T) (hy.1.mono (by decide)) hy.2 rfl T.g_is_text T.lY.kp (b_is_text T.lY) (aj (au 1) (aq)))) (aq)))))))
theorem ok_is_going_on : FnG P w K mg base 5 T.qu T.d_is_going_on ["thing"] (iG T.ad) :=
  bZ T.jT oG (len_is_going_on_k11 T.ad) fun cdv A outer s H hr hG => ⟨_, der_is_going_on T ⟨hr, hG⟩, pure_is_going_on_k11 T.ad⟩
theorem der_are_costs (hy : HY 2 A "are_costs" fW s f cdv) : LD P w K mg base M_are_costs "are_costs" fW f cdv A outer s H (qb T.ad) :=
    aJ (fY (LWe.lt (lw_or (jK (dJ (aQ eY rfl T.n_isinstance boot_isinstance (aj (au 0) (aj (eZ "tuple" rfl T.n_tuple boot_tuple) (aq)))))) (lw_or1 (cR (lo_ne hy.1.units) (aQ j6 rfl T.n_len boot_len (aj (au 0) (aq))) (le_int)))))
      (aK (aZ (lW)))
      (bT)) <|
    aK (aZ (aQ (lc_all rfl) rfl T.n_all boot_all (aj (le_lc [("one", 1)] rfl sc_are_costs.nd (iH (au 0)) (blkOk_by (N := M_are_costs) (sc := defScope fW) (by decide +kernel)) (by decide) (fun _ _ _ _ _ => dB 1 sc_are_costs.nd) (fun _ _ _ _ _ => mK) (fun _ _ _ _ _ => aF (jR T) (hy.1.mono (by decide)) hy.2 rfl T.lE T.cI.kp (lJ T.cI) (aj (au 1) (aj (le_int) (aj (le_gint 9 rfl T.c_GREATEST_PRICE) (aq)))))) (aq))))
theorem ok_are_costs : FnG P w K mg base 3 T.f_are_costs T.d_are_costs ["thing"] (nW T.ad) :=
  bZ T.mX sc_are_costs (len_are_costs T.ad) fun cdv A outer s H hr hG => ⟨_, der_are_costs T ⟨hr, hG⟩, pure_are_costs T.ad⟩
theorem der_is_price_table (hy : HY 3 A "is_price_table" cG s f cdv) : LD P w K mg base mG "is_price_table" cG f cdv A outer s H (jA T.ad) :=
    aJ (fY (jK (dJ (aQ eY rfl T.n_isinstance boot_isinstance (aj (au 0) (aj (eZ "dict" rfl T.n_dict boot_dict) (aq))))))
      (aK (aZ (lW)))
      (bT)) <|
    aK (aZ (aQ (lc_all rfl) rfl T.n_all boot_all (aj (le_lock (le_lc [("letter", 1), ("costs", 2)] rfl je.nd (lit_items (au 0)) (blkOk_by (N := mG) (sc := defScope cG) (by decide +kernel)) (by decide) (fun _ _ _ _ _ => lg_tup rfl (lgs_cons (dB 1 je.nd) (lgs_cons (dB 2 je.nd) (lgs_nil)))) (fun _ _ _ _ _ => mK) (fun _ _ _ _ _ => iw (aF (ok_is_letter T) (hy.1.mono (by decide)) hy.2 rfl T.g_is_letter T.fM.kp (b_is_letter T.fM) (aj (au 1) (aq))) (jL (aF (ok_are_costs T) (hy.1.mono (by decide)) hy.2 rfl T.g_are_costs T.mX.kp (b_are_costs T.mX) (aj (au 2) (aq))))))) (aq))))
theorem ok_is_price_table : FnG P w K mg base 4 T.mF T.d_is_price_table ["thing"] (jc T.ad) :=
  bZ T.gU je (len_is_price_table T.ad) fun cdv A outer s H hr hG => ⟨_, der_is_price_table T ⟨hr, hG⟩, pure_is_price_table T.ad⟩
theorem der_Prices___init__ (hy : HY 4 A "Prices.__init__" bR s f cdv) : LD P w K mg base j9 "Prices.__init__" bR f cdv A outer s H (iZ T.ad) :=
    aJ (fY (jK (dJ (aF (ok_is_price_table T) (hy.1.mono (by decide)) hy.2 rfl T.g_is_price_table T.gU.kp (b_is_price_table T.gU) (aj (au 1) (aq)))))
      (aK (ls_never))
      (bT)) <|
    aK (ls_attr (slot1 T.sc_Prices T.s_Prices_its_costs) (au 0) (le_dc [("letter", 2)] rfl jY.nd (iH (aQ (lc_sorted rfl) rfl T.n_sorted boot_sorted (aj (au 1) (aq)))) (blkOk_by (N := j9) (sc := defScope bR) (by decide +kernel)) (by decide) (fun _ _ _ _ _ => dB 2 jY.nd) (fun _ _ _ _ _ => lts_one (cR (lo_ne hy.1.units) (gQ (mD (u1 hy.1)) (au 1) (au 2)) (le_gtup T.T_PLAIN rfl T.g_PLAIN))) (fun _ _ _ _ _ => au 2) (fun _ _ _ _ _ => gQ (mD (u1 hy.1)) (au 1) (au 2))))
theorem iI : FnG P w K mg base 5 T.lV T.pU ["self", "table"] (bu T.ad) :=
  bZ T.cY jY (len_Prices___init__ T.ad) fun cdv A outer s H hr hG => ⟨_, der_Prices___init__ T ⟨hr, hG⟩, pure_Prices___init__ T.ad⟩
theorem der__law_bag (hy : HY 0 A "_law_bag" iz s f cdv) : LD P w K mg base M__law_bag "_law_bag" iz f cdv A outer s H (t__law_bag T.ad) :=
    aK (aZ (bK (aj (le_int) (aj (le_int) (aj (le_int) (aj (le_lc [("_law_cell", 1)] rfl sc__law_bag.nd (iH (eV (au 0) (eG) (eO (le_int)))) (blkOk_by (N := M__law_bag) (sc := defScope iz) (by decide +kernel)) (by decide) (fun _ _ _ _ _ => dB 1 sc__law_bag.nd) (fun _ _ _ _ _ => mK) (fun _ _ _ _ _ => aQ lc_abs rfl T.n_abs boot_abs (aj (au 1) (aq)))) (aq)))))))
theorem ok__law_bag : FnG P w K mg base 1 T.f__law_bag T.d__law_bag ["_law_script"] (m9 T.ad) :=
  bZ T.oM sc__law_bag (len__law_bag T.ad) fun cdv A outer s H hr hG => ⟨_, der__law_bag T ⟨hr, hG⟩, pure__law_bag T.ad⟩
theorem der__law_take (hy : HY 0 A "_law_take" ir s f cdv) : LD P w K mg base M__law_take "_law_take" ir f cdv A outer s H (t__law_take T.ad) :=
    aJ (fY (cR (gD hy.1.units) (gQ (mD (u1 hy.1)) (au 0) (le_int)) (le_int))
      (aJ (eQ 2 jD.nd (gQ (mD (u1 hy.1)) (bz bO (eV (gQ (mD (u1 hy.1)) (au 0) (le_int)) (eO (gQ (mD (u1 hy.1)) (au 0) (le_int))) (eG)) (bK (aj (le_int) (aq)))) (le_int))) <|
    aJ (ls_augS ip_add (au 0) (le_int) (le_int)) <|
    aJ (ls_setA (u1 hy.1) (bz lu (au 2) (fj lc_int rfl T.n_int boot_int (aj (jn lo_ge (au 2) (bz lo_pow (le_int) (le_int))) (aq)))) (au 0) (le_int)) <|
    aJ (eQ 3 jD.nd (bz bO (bz bO (bz lu (gQ (mD (u1 hy.1)) (au 0) (le_int)) (le_int)) (bz lo_mod (fj lc_int rfl T.n_int boot_int (aj (au 2) (aq))) (le_int))) (bz lu (le_int) (gQ (mD (u1 hy.1)) (au 0) (le_int))))) <|
    aK (ls_setA (u1 hy.1) (bz lo_mod (fj lc_int rfl T.n_int boot_int (aj (au 3) (aq))) (le_int)) (au 0) (le_int)))
      (bT)) <|
    aJ (fY (cR lo_gt (gQ (mD (u1 hy.1)) (au 0) (le_int)) (le_int))
      (aJ (eQ 4 jD.nd (bz lo_mod (fj lc_int rfl T.n_int boot_int (aj (gQ (mD (u1 hy.1)) (au 0) (le_int)) (aq))) (au 1))) <|
    aJ (ls_setA (u1 hy.1) (bz lo_fdiv (fj lc_int rfl T.n_int boot_int (aj (gQ (mD (u1 hy.1)) (au 0) (le_int)) (aq))) (au 1)) (au 0) (le_int)) <|
    aK (aZ (au 4)))
      (bT)) <|
    aJ (eQ 5 jD.nd (bz lo_mod (fj lc_int rfl T.n_int boot_int (aj (bz lu (bz bO (gQ (mD (u1 hy.1)) (au 0) (le_int)) (le_int)) (le_int)) (aq))) (le_int))) <|
    aJ (eQ 6 jD.nd (bz lo_mod (fj lc_int rfl T.n_int boot_int (aj (bz lu (bz lo_mod (fj lc_int rfl T.n_int boot_int (aj (bz lu (au 5) (au 5)) (aq))) (le_int)) (le_int)) (aq))) (le_int))) <|
    aK (aZ (bz lo_mod (fj lc_int rfl T.n_int boot_int (aj (bz lo_fdiv (au 6) (le_int)) (aq))) (au 1)))
theorem cO : FnG P w K mg base 1 T.f__law_take T.d__law_take ["_law_bag_here", "_law_many"] (bf T.ad) :=
  bZ T.aX jD (len__law_take T.ad) fun cdv A outer s H hr hG => ⟨_, der__law_take T ⟨hr, hG⟩, pure__law_take T.ad⟩
theorem der__law_one (hy : HY 1 A "_law_one" jx s f cdv) : LD P w K mg base M__law_one "_law_one" jx f cdv A outer s H (t__law_one T.ad) :=
    aK (aZ (gQ (mD (u1 hy.1)) (au 1) (aF (cO T) (hy.1.mono (by decide)) hy.2 rfl T.du T.aX.kp (dw T.aX) (aj (au 0) (aj (aQ j6 rfl T.n_len boot_len (aj (au 1) (aq))) (aq))))))
theorem cU : FnG P w K mg base 2 T.f__law_one T.d__law_one ["_law_bag_here", "_law_some"] (aY T.ad) :=
  bZ T.bh sc__law_one (len__law_one T.ad) fun cdv A outer s H hr hG => ⟨_, der__law_one T ⟨hr, hG⟩, pure__law_one T.ad⟩
theorem der__law_mixed (hy : HY 1 A "_law_mixed" fG s f cdv) : LD P w K mg base M__law_mixed "_law_mixed" fG f cdv A outer s H (t__law_mixed T.ad) :=
    aJ (eQ 2 qm.nd (bK (aq))) <|
    aJ (ls_for PassesOwn.never rfl (iH (au 1)) (dB 3 qm.nd)
      (aK (ls_expr (le_bm PySem.F.plainAttrs_list PySem.F.slot_list_insert PySem.F.type_list_insert mt_insert lm_insert (au 2) (aj (aF (cO T) (hy.1.mono (by decide)) hy.2 rfl T.du T.aX.kp (dw T.aX) (aj (au 0) (aj (bz bO (aQ j6 rfl T.n_len boot_len (aj (au 2) (aq))) (le_int)) (aq)))) (aj (au 3) (aq))))))) <|
    aK (aZ (au 2))
theorem ok__law_mixed : FnG P w K mg base 2 T.f__law_mixed T.d__law_mixed ["_law_bag_here", "_law_things"] (mV T.ad) :=
  bZ T.lM qm (len__law_mixed T.ad) fun cdv A outer s H hr hG => ⟨_, der__law_mixed T ⟨hr, hG⟩, pure__law_mixed T.ad⟩
theorem der__law_alphabet (hy : HY 2 A "_law_alphabet" di s f cdv) : LD P w K mg base M__law_alphabet "_law_alphabet" di f cdv A outer s H (t__law_alphabet T.ad) :=
    aK (aZ (eV (aF (ok__law_mixed T) (hy.1.mono (by decide)) hy.2 rfl T.g__law_mixed T.lM.kp (b__law_mixed T.lM) (aj (au 0) (aj (bK (aj (le_int) (aj (le_int) (aj (le_int) (aj (le_int) (aj (le_int) (aj (le_int) (aj (bz lo_pow (le_int) (le_int)) (aq))))))))) (aq)))) (eG) (eO (aF (cU T) (hy.1.mono (by decide)) hy.2 rfl T.dF T.bh.kp (dD T.bh) (aj (au 0) (aj (bK (aj (le_int) (aj (le_int) (aj (le_int) (aj (le_int) (aj (le_int) (aq))))))) (aq)))))))
theorem ok__law_alphabet : FnG P w K mg base 3 T.nD T.d__law_alphabet ["_law_bag_here"] (gR T.ad) :=
  bZ T.iT sc__law_alphabet (len__law_alphabet T.ad) fun cdv A outer s H hr hG => ⟨_, der__law_alphabet T ⟨hr, hG⟩, pure__law_alphabet T.ad⟩
theorem der__law_text (hy : HY 2 A "_law_text" fK s f cdv) : LD P w K mg base M__law_text "_law_text" fK f cdv A outer s H (t__law_text T.ad) :=
    aK (aZ (fj lc_tuple rfl T.n_tuple boot_tuple (aj (le_lc [("_law_k", 3)] rfl sc__law_text.nd (oW rfl T.n_range (aj (aF (cO T) (hy.1.mono (by decide)) hy.2 rfl T.du T.aX.kp (dw T.aX) (aj (au 0) (aj (bz bO (au 2) (le_int)) (aq)))) (aq))) (blkOk_by (N := M__law_text) (sc := defScope fK) (by decide +kernel)) (by decide) (fun _ _ _ _ _ => dB 3 sc__law_text.nd) (fun _ _ _ _ _ => mK) (fun _ _ _ _ _ => aF (cU T) (hy.1.mono (by decide)) hy.2 rfl T.dF T.bh.kp (dD T.bh) (aj (au 0) (aj (au 1) (aq))))) (aq))))
theorem ok__law_text : FnG P w K mg base 3 T.f__law_text T.d__law_text ["_law_bag_here", "_law_letters", "_law_most"] (d7 T.ad) :=
  bZ T.fO sc__law_text (len__law_text T.ad) fun cdv A outer s H hr hG => ⟨_, der__law_text T ⟨hr, hG⟩, pure__law_text T.ad⟩
theorem der__law_pair (hy : HY 2 A "_law_pair" ig s f cdv) : LD P w K mg base M__law_pair "_law_pair" ig f cdv A outer s H (pY T.ad) :=
    aK (aZ (aR (aj (bz bO (le_int) (aF (cU T) (hy.1.mono (by decide)) hy.2 rfl T.dF T.bh.kp (dD T.bh) (aj (au 0) (aj (bK (aj (le_int) (aj (le_int) (aj (le_int) (aj (le_int) (aq)))))) (aq))))) (aj (bz bO (le_int) (aF (cU T) (hy.1.mono (by decide)) hy.2 rfl T.dF T.bh.kp (dD T.bh) (aj (au 0) (aj (bK (aj (le_int) (aj (le_int) (aj (le_int) (aj (le_int) (aq)))))) (aq))))) (aq)))))
theorem ok__law_pair : FnG P w K mg base 3 T.f__law_pair T.d__law_pair ["_law_bag_here"] (lF T.ad) :=
  bZ T.nu sc__law_pair (len__law_pair T.ad) fun cdv A outer s H hr hG => ⟨_, der__law_pair T ⟨hr, hG⟩, pure__law_pair T.ad⟩
theorem der__law_promise (hy : HY 2 A "_law_promise" dN s f cdv) : LD P w K mg base M__law_promise "_law_promise" dN f cdv A outer s H (lH T.ad) :=
    aJ (eQ 1 sc__law_promise.nd (aF (cO T) (hy.1.mono (by decide)) hy.2 rfl T.du T.aX.kp (dw T.aX) (aj (au 0) (aj (le_int) (aq))))) <|
    aJ (fY (cR (gD hy.1.units) (au 1) (le_int))
      (aK (aZ (aR (aj (le_str [110, 111, 110, 101]) (aq)))))
      (bT)) <|
    aJ (fY (cR (gD hy.1.units) (au 1) (le_int))
      (aK (aZ (aR (aj (le_str [108, 97, 103]) (aj (bz bO (le_int) (aF (cO T) (hy.1.mono (by decide)) hy.2 rfl T.du T.aX.kp (dw T.aX) (aj (au 0) (aj (le_int) (aq))))) (aq))))))
      (bT)) <|
    aK (aZ (aR (aj (le_str [116, 111, 116, 97, 108]) (aj (aF (cU T) (hy.1.mono (by decide)) hy.2 rfl T.dF T.bh.kp (dD T.bh) (aj (au 0) (aj (bK (aj (le_int) (aj (le_int) (aj (le_int) (aj (le_int) (aj (le_int) (aj (le_int) (aj (le_int) (aj (le_int) (aj (le_int) (aq))))))))))) (aq)))) (aq)))))
theorem ok__law_promise : FnG P w K mg base 3 T.oH T.d__law_promise ["_law_bag_here"] (iV T.ad) :=
  bZ T.jw sc__law_promise (len__law_promise T.ad) fun cdv A outer s H hr hG => ⟨_, der__law_promise T ⟨hr, hG⟩, pure__law_promise T.ad⟩
theorem der__law_alike (hy : HY 0 A "_law_alike" fL s f cdv) : LD P w K mg base M__law_alike "_law_alike" fL f cdv A outer s H (t__law_alike T.ad) :=
    aK (aZ (iw (jn (gD hy.1.units) (au 0) (au 1)) (jL (jn (gD hy.1.units) (aQ (lc_repr hy.2 hy.1.units) rfl T.n_repr boot_repr (aj (au 0) (aq))) (aQ (lc_repr hy.2 hy.1.units) rfl T.n_repr boot_repr (aj (au 1) (aq)))))))
theorem ok__law_alike : FnG P w K mg base 1 T.f__law_alike T.d__law_alike ["_law_found", "_law_due"] (cA T.ad) :=
  bZ T.d8 sc__law_alike (len__law_alike T.ad) fun cdv A outer s H hr hG => ⟨_, der__law_alike T ⟨hr, hG⟩, pure__law_alike T.ad⟩
theorem der__law_integer (hy : HY 0 A "_law_integer" dM s f cdv) : LD P w K mg base M__law_integer "_law_integer" dM f cdv A outer s H (kh T.ad) :=
    aK (aZ (iw (aQ eY rfl T.n_isinstance boot_isinstance (aj (au 0) (aj (eZ "int" rfl T.n_int boot_int) (aq)))) (jL (le_not (aQ eY rfl T.n_isinstance boot_isinstance (aj (au 0) (aj (eZ "bool" rfl T.n_bool boot_bool) (aq))))))))
theorem jW : FnG P w K mg base 1 T.oO T.d__law_integer ["_law_thing"] (cC T.ad) :=
  bZ T.bW sc__law_integer (len_is_integer T.ad) fun cdv A outer s H hr hG => ⟨_, der__law_integer T ⟨hr, hG⟩, pure_is_integer T.ad⟩
theorem der__law_letter (hy : HY 1 A "_law_letter" eE s f cdv) : LD P w K mg base M__law_letter "_law_letter" eE f cdv A outer s H (mO T.ad) :=
    aK (aZ (iw (aF (jW T) (hy.1.mono (by decide)) hy.2 rfl T.lN T.bW.kp (km T.bW) (aj (au 0) (aq))) (jL (le_chain lo_le lo_le (le_int) (au 0) (bz lo_pow (le_int) (le_int))))))
theorem ok__law_letter : FnG P w K mg base 2 T.ql T.d__law_letter ["_law_thing"] (jj T.ad) :=
  bZ T.gA sc__law_letter (len__law_letter T.ad) fun cdv A outer s H hr hG => ⟨_, der__law_letter T ⟨hr, hG⟩, pure__law_letter T.ad⟩
theorem der__law_is_text (hy : HY 2 A "_law_is_text" cW s f cdv) : LD P w K mg base oJ "_law_is_text" cW f cdv A outer s H (kE T.ad) :=
    aK (aZ (iw (aQ eY rfl T.n_isinstance boot_isinstance (aj (au 0) (aj (eZ "tuple" rfl T.n_tuple boot_tuple) (aq)))) (jL (jn (lo_eqN hy.1.units) (le_lc [("_law_one_here", 1)] rfl nA.nd (iH (au 0)) (blkOk_by (N := oJ) (sc := defScope cW) (by decide +kernel)) (by decide) (fun _ _ _ _ _ => dB 1 nA.nd) (fun _ _ _ _ _ => lts_one (jK (dJ (aF (ok__law_letter T) (hy.1.mono (by decide)) hy.2 rfl T.g__law_letter T.gA.kp (b__law_letter T.gA) (aj (au 1) (aq)))))) (fun _ _ _ _ _ => au 1)) (bK (aq))))))
theorem ok__law_is_text : FnG P w K mg base 3 T.o5 T.d__law_is_text ["_law_thing"] (iU T.ad) :=
  bZ T.eU nA (len__law_is_text T.ad) fun cdv A outer s H hr hG => ⟨_, der__law_is_text T ⟨hr, hG⟩, pure__law_is_text T.ad⟩
theorem der__law_is_script (hy : HY 0 A "_law_is_script" cH s f cdv) : LD P w K mg base mj "_law_is_script" cH f cdv A outer s H (jF T.ad) :=
    aK (aZ (iw (aQ eY rfl T.n_isinstance boot_isinstance (aj (au 0) (aj (eZ "str" rfl T.n_str boot_str) (aq)))) (jL (jn (lo_eqN hy.1.units) (le_lc [("_law_one_here", 1)] rfl lG.nd (iH (au 0)) (blkOk_by (N := mj) (sc := defScope cH) (by decide +kernel)) (by decide) (fun _ _ _ _ _ => dB 1 lG.nd) (fun _ _ _ _ _ => lts_one (cR (lo_nin (u65 hy.1)) (au 1) (aR (aj (le_str [107]) (aj (le_str [100]) (aj (le_str [112]) (aq))))))) (fun _ _ _ _ _ => au 1)) (bK (aq))))))
theorem ok__law_is_script : FnG P w K mg base 1 T.mH T.d__law_is_script ["_law_thing"] (ji T.ad) :=
  bZ T.gM lG (len__law_is_script T.ad) fun cdv A outer s H hr hG => ⟨_, der__law_is_script T ⟨hr, hG⟩, pure__law_is_script T.ad⟩
theorem der__law_is_side (hy : HY 0 A "_law_is_side" dR s f cdv) : LD P w K mg base M__law_is_side "_law_is_side" dR f cdv A outer s H (lK T.ad) :=
    aK (aZ (iw (aQ eY rfl T.n_isinstance boot_isinstance (aj (au 0) (aj (eZ "str" rfl T.n_str boot_str) (aq)))) (jL (jn (lo_in (u65 hy.1)) (au 0) (aR (aj (le_str [108, 101, 102, 116]) (aj (le_str [114, 105, 103, 104, 116]) (aq))))))))
theorem ok__law_is_side : FnG P w K mg base 1 T.oK T.d__law_is_side ["_law_thing"] (jV T.ad) :=
  bZ T.jo sc__law_is_side (len__law_is_side T.ad) fun cdv A outer s H hr hG => ⟨_, der__law_is_side T ⟨hr, hG⟩, pure__law_is_side T.ad⟩
theorem der__law_is_pair (hy : HY 1 A "_law_is_pair" cZ s f cdv) : LD P w K mg base oX "_law_is_pair" cZ f cdv A outer s H (t__law_is_pair T.ad) :=
    aJ (fY (LWe.lt (lw_or (jK (dJ (aQ eY rfl T.n_isinstance boot_isinstance (aj (au 0) (aj (eZ "tuple" rfl T.n_tuple boot_tuple) (aq)))))) (lw_or1 (cR (lo_ne hy.1.units) (aQ j6 rfl T.n_len boot_len (aj (au 0) (aq))) (le_int)))))
      (aK (aZ (lW)))
      (bT)) <|
    aK (aZ (jn (lo_eqN hy.1.units) (le_lc [("_law_one_here", 1)] rfl nH.nd (iH (au 0)) (blkOk_by (N := oX) (sc := defScope cZ) (by decide +kernel)) (by decide) (fun _ _ _ _ _ => dB 1 nH.nd) (fun _ _ _ _ _ => lts_one (LWe.lt (lw_or (jK (dJ (aF (jW T) (hy.1.mono (by decide)) hy.2 rfl T.lN T.bW.kp (km T.bW) (aj (au 1) (aq))))) (lw_or (cR lo_lt (au 1) (le_int)) (lw_or1 (cR lo_gt (au 1) (le_int))))))) (fun _ _ _ _ _ => au 1)) (bK (aq))))
theorem ok__law_is_pair : FnG P w K mg base 2 T.oV T.d__law_is_pair ["_law_thing"] (jU T.ad) :=
  bZ T.ju nH (len__law_is_pair T.ad) fun cdv A outer s H hr hG => ⟨_, der__law_is_pair T ⟨hr, hG⟩, pure__law_is_pair T.ad⟩
theorem der__law_is_promise (hy : HY 1 A "_law_is_promise" cM s f cdv) : LD P w K mg base pO "_law_is_promise" cM f cdv A outer s H (pN T.ad) :=
    aJ (fY (LWe.lt (lw_or (jK (dJ (aQ eY rfl T.n_isinstance boot_isinstance (aj (au 0) (aj (eZ "tuple" rfl T.n_tuple boot_tuple) (aq)))))) (lw_or (cR (lo_nin (u65 hy.1)) (aQ j6 rfl T.n_len boot_len (aj (au 0) (aq))) (aR (aj (le_int) (aj (le_int) (aq))))) (lw_or1 (jK (dJ (aQ eY rfl T.n_isinstance boot_isinstance (aj (gQ (mD (u1 hy.1)) (au 0) (le_int)) (aj (eZ "str" rfl T.n_str boot_str) (aq))))))))))
      (aK (aZ (lW)))
      (bT)) <|
    aJ (fY (cR (gD hy.1.units) (aQ j6 rfl T.n_len boot_len (aj (au 0) (aq))) (le_int))
      (aK (aZ (jn (gD hy.1.units) (gQ (mD (u1 hy.1)) (au 0) (le_int)) (le_str [110, 111, 110, 101]))))
      (bT)) <|
    aJ (fY (LWe.lt (lw_or (cR (lo_nin (u65 hy.1)) (gQ (mD (u1 hy.1)) (au 0) (le_int)) (aR (aj (le_str [108, 97, 103]) (aj (le_str [116, 111, 116, 97, 108]) (aq))))) (lw_or1 (jK (dJ (aF (jW T) (hy.1.mono (by decide)) hy.2 rfl T.lN T.bW.kp (km T.bW) (aj (gQ (mD (u1 hy.1)) (au 0) (le_int)) (aq))))))))
      (aK (aZ (lW)))
      (bT)) <|
    aK (aZ (le_if (cR (gD hy.1.units) (gQ (mD (u1 hy.1)) (au 0) (le_int)) (le_str [108, 97, 103])) (le_chain lo_le lo_le (le_int) (gQ (mD (u1 hy.1)) (au 0) (le_int)) (le_int)) (le_chain lo_le lo_le (le_int) (gQ (mD (u1 hy.1)) (au 0) (le_int)) (le_int))))
theorem ok__law_is_promise : FnG P w K mg base 2 T.lU T.ph ["_law_thing"] (iJ T.ad) :=
  bZ T.fP sc__law_is_promise (len__law_is_promise T.ad) fun cdv A outer s H hr hG => ⟨_, der__law_is_promise T ⟨hr, hG⟩, pure__law_is_promise T.ad⟩
theorem der__law_is_going_on (hy : HY 3 A "_law_is_going_on" bL s f cdv) : LD P w K mg base jZ "_law_is_going_on" bL f cdv A outer s H (iQ T.ad) :=
    aK (aZ (iw (aQ eY rfl T.n_isinstance boot_isinstance (aj (au 0) (aj (eZ "tuple" rfl T.n_tuple boot_tuple) (aq)))) (iw (jn (gD hy.1.units) (aQ j6 rfl T.n_len boot_len (aj (au 0) (aq))) (le_int)) (jL (jn (lo_eqN hy.1.units) (le_lc [("_law_one_here", 1)] rfl jO.nd (iH (au 0)) (blkOk_by (N := jZ) (sc := defScope bL) (by decide +kernel)) (by decide) (fun _ _ _ _ _ => dB 1 jO.nd) (fun _ _ _ _ _ => lts_one (jK (dJ (aF (ok__law_is_text T) (hy.1.mono (by decide)) hy.2 rfl T.g__law_is_text T.eU.kp (b__law_is_text T.eU) (aj (au 1) (aq)))))) (fun _ _ _ _ _ => au 1)) (bK (aq)))))))
theorem ok__law_is_going_on : FnG P w K mg base 4 T.j7 T.oR ["_law_thing"] (gG T.ad) :=
  bZ T.eX jO (len__law_is_going_on T.ad) fun cdv A outer s H hr hG => ⟨_, der__law_is_going_on T ⟨hr, hG⟩, pure__law_is_going_on T.ad⟩
theorem der__law_dues (hy : HY 4 A "_law_dues" gY s f cdv) : LD P w K mg base M__law_dues "_law_dues" gY f cdv A outer s H (pX T.ad) :=
    aJ (eQ 1 sc__law_dues.nd (bK (aj (aF (jW T) (hy.1.mono (by decide)) hy.2 rfl T.lN T.bW.kp (km T.bW) (aj (au 0) (aq))) (aj (aF (ok__law_letter T) (hy.1.mono (by decide)) hy.2 rfl T.g__law_letter T.gA.kp (b__law_letter T.gA) (aj (au 0) (aq))) (aj (aF (ok__law_is_text T) (hy.1.mono (by decide)) hy.2 rfl T.g__law_is_text T.eU.kp (b__law_is_text T.eU) (aj (au 0) (aq))) (aj (aF (ok__law_is_side T) (hy.1.mono (by decide)) hy.2 rfl T.g__law_is_side T.jo.kp (b__law_is_side T.jo) (aj (au 0) (aq))) (aq))))))) <|
    aK (aZ (bz bO (au 1) (bK (aj (aF (ok__law_is_script T) (hy.1.mono (by decide)) hy.2 rfl T.g__law_is_script T.gM.kp (b__law_is_script T.gM) (aj (au 0) (aq))) (aj (aF (ok__law_is_promise T) (hy.1.mono (by decide)) hy.2 rfl T.g__law_is_promise T.fP.kp (b__law_is_promise T.fP) (aj (au 0) (aq))) (aj (aF (ok__law_is_pair T) (hy.1.mono (by decide)) hy.2 rfl T.g__law_is_pair T.ju.kp (b__law_is_pair T.ju) (aj (au 0) (aq))) (aj (aF (ok__law_is_going_on T) (hy.1.mono (by decide)) hy.2 rfl T.g__law_is_going_on T.eX.kp (b__law_is_going_on T.eX) (aj (au 0) (aq))) (aq))))))))
theorem ok__law_dues : FnG P w K mg base 5 T.f__law_dues T.d__law_dues ["_law_thing"] (fQ T.ad) :=
  bZ T.jm sc__law_dues (len__law_dues T.ad) fun cdv A outer s H hr hG => ⟨_, der__law_dues T ⟨hr, hG⟩, pure__law_dues T.ad⟩
theorem der__law_tolds (hy : HY 5 A "_law_tolds" fV s f cdv) : LD P w K mg base M__law_tolds "_law_tolds" fV f cdv A outer s H (ou T.ad) :=
    aJ (eQ 1 sc__law_tolds.nd (bK (aj (aF (ok_is_integer T) (hy.1.mono (by decide)) hy.2 rfl T.g_is_integer T.iy.kp (b_is_integer T.iy) (aj (au 0) (aq))) (aj (aF (ok_is_letter T) (hy.1.mono (by decide)) hy.2 rfl T.g_is_letter T.fM.kp (b_is_letter T.fM) (aj (au 0) (aq))) (aj (aF (ok_is_text T) (hy.1.mono (by decide)) hy.2 rfl T.g_is_text T.lY.kp (b_is_text T.lY) (aj (au 0) (aq))) (aj (aF (ok_is_side T) (hy.1.mono (by decide)) hy.2 rfl T.g_is_side T.F_is_side.kp (b_is_side T.F_is_side) (aj (au 0) (aq))) (aq))))))) <|
    aK (aZ (bz bO (au 1) (bK (aj (aF (ok_is_script T) (hy.1.mono (by decide)) hy.2 rfl T.g_is_script T.mZ.kp (b_is_script T.mZ) (aj (au 0) (aq))) (aj (aF (ok_is_promise T) (hy.1.mono (by decide)) hy.2 rfl T.g_is_promise T.lQ.kp (b_is_promise T.lQ) (aj (au 0) (aq))) (aj (aF (ok_is_pair T) (hy.1.mono (by decide)) hy.2 rfl T.g_is_pair T.F_is_pair.kp (b_is_pair T.F_is_pair) (aj (au 0) (aq))) (aj (aF (ok_is_going_on T) (hy.1.mono (by decide)) hy.2 rfl T.g_is_going_on T.jT.kp (b_is_going_on T.jT) (aj (au 0) (aq))) (aq))))))))
theorem ok__law_tolds : FnG P w K mg base 6 T.f__law_tolds T.d__law_tolds ["_law_thing"] (cV T.ad) :=
  bZ T.dZ sc__law_tolds (len__law_tolds T.ad) fun cdv A outer s H hr hG => ⟨_, der__law_tolds T ⟨hr, hG⟩, pure__law_tolds T.ad⟩
theorem der__law_plain (hy : HY 0 A "_law_plain" fU s f cdv) : LD P w K mg base M__law_plain "_law_plain" fU f cdv A outer s H (t__law_plain T.ad) :=
    aJ (eQ 0 d9.nd (bK (aj (le_non) (aj (lW) (aj (lW) (aj (le_int) (aj (le_int) (aj (le_int) (aj (le_int) (aj (le_neg (le_int)) (aj (bz lo_pow (le_int) (le_int)) (aj (bz bO (bz lo_pow (le_int) (le_int)) (le_int)) (aj (bz lo_pow (le_int) (le_int)) (aj (le_neg (bz lo_pow (le_int) (le_int))) (aj (le_str []) (aj (le_str [32]) (aj (le_str [107]) (aj (le_str [107, 100, 112]) (aj (le_str [75]) (aq)))))))))))))))))))) <|
    aJ (eQ 0 d9.nd (bz bO (au 0) (bK (aj (le_str [107, 100, 112, 120]) (aj (le_str [112, 100, 10]) (aj (le_str [107, 32, 100]) (aj (le_str [108, 101, 102, 116]) (aj (le_str [114, 105, 103, 104, 116]) (aj (le_str [76, 101, 102, 116]) (aj (le_str [108, 101, 102, 116, 115]) (aj (le_str [110, 111, 110, 101]) (aj (le_str [108, 97, 103]) (aj (le_str [116, 111, 116, 97, 108]) (aj (aR (aq)) (aj (bK (aq)) (aj (le_dnew) (aj (aR (aj (le_int) (aq))) (aq)))))))))))))))))) <|
    aJ (eQ 0 d9.nd (bz bO (au 0) (bK (aj (aR (aj (le_str [110, 111, 110, 101]) (aq))) (aj (bK (aj (le_str [110, 111, 110, 101]) (aq))) (aj (aR (aj (le_str [110, 111, 110, 101]) (aj (le_int) (aq)))) (aj (aR (aj (le_str [108, 97, 103]) (aq))) (aj (aR (aj (le_str [108, 97, 103]) (aj (le_int) (aq)))) (aj (aR (aj (le_str [108, 97, 103]) (aj (le_int) (aq)))) (aj (aR (aj (le_str [108, 97, 103]) (aj (le_int) (aq)))) (aj (aR (aj (le_str [108, 97, 103]) (aj (le_int) (aq)))) (aq)))))))))))) <|
    aJ (eQ 0 d9.nd (bz bO (au 0) (bK (aj (aR (aj (le_str [116, 111, 116, 97, 108]) (aj (le_int) (aq)))) (aj (aR (aj (le_str [116, 111, 116, 97, 108]) (aj (le_int) (aq)))) (aj (aR (aj (le_str [116, 111, 116, 97, 108]) (aj (le_int) (aq)))) (aj (aR (aj (le_str [116, 111, 116, 97, 108]) (aj (le_neg (le_int)) (aq)))) (aj (aR (aj (le_str [116, 111, 116, 97, 108]) (aj (lW) (aq)))) (aj (aR (aj (le_str [108, 97, 103]) (aj (lW) (aq)))) (aq)))))))))) <|
    aJ (eQ 0 d9.nd (bz bO (au 0) (bK (aj (aR (aj (le_str [108, 97, 103]) (aj (le_int) (aj (le_int) (aq))))) (aj (aR (aj (le_int) (aj (le_int) (aq)))) (aj (aR (aj (le_int) (aj (le_int) (aq)))) (aj (aR (aj (le_int) (aj (le_int) (aq)))) (aj (aR (aj (le_int) (aj (le_int) (aq)))) (aj (aR (aj (le_int) (aq))) (aj (aR (aj (le_int) (aj (le_int) (aj (le_int) (aq))))) (aj (bK (aj (le_int) (aj (le_int) (aq)))) (aj (aR (aj (le_int) (aj (lW) (aq)))) (aj (aR (aj (aR (aq)) (aj (aR (aq)) (aq)))) (aq)))))))))))))) <|
    aJ (eQ 0 d9.nd (bz bO (au 0) (bK (aj (aR (aj (aR (aq)) (aj (bK (aq)) (aq)))) (aq))))) <|
    aJ (eQ 0 d9.nd (bz bO (au 0) (bK (aj (aR (aj (aR (aj (le_int) (aq))) (aj (aR (aj (bz lo_pow (le_int) (le_int)) (aq))) (aq)))) (aj (aR (aj (aR (aj (le_int) (aq))) (aj (aR (aj (bz bO (bz lo_pow (le_int) (le_int)) (le_int)) (aq))) (aq)))) (aj (aR (aj (aR (aq)) (aj (aR (aq)) (aj (aR (aq)) (aq))))) (aj (aR (aj (aR (aq)) (aq))) (aj (le_disp (lps_cons (le_int) (le_int) (lps_nil))) (aj (aR (aj (le_non) (aq))) (aq)))))))))) <|
    aK (aZ (bz bO (au 0) (bK (aj (aR (aj (le_str [107]) (aq))) (aj (aR (aj (le_str [107]) (aj (le_str [100]) (aq)))) (aj (le_disp (lps_cons (le_str [110, 111, 110, 101]) (le_int) (lps_nil))) (aj (bK (aj (bK (aj (le_str [110, 111, 110, 101]) (aq))) (aq))) (aq))))))))
theorem mJ : FnG P w K mg base 1 T.f__law_plain T.d__law_plain [] (bQ T.ad) :=
  bZ T.cX d9 (len__law_plain T.ad) fun cdv A outer s H hr hG => ⟨_, der__law_plain T ⟨hr, hG⟩, pure__law_plain T.ad⟩
theorem der__law_good (hy : HY 3 A "_law_good" fH s f cdv) : LD P w K mg base M__law_good "_law_good" fH f cdv A outer s H (t__law_good T.ad) :=
    aJ (ls_par 1 2 rfl oE.nd (aj (aF (ok__law_alphabet T) (hy.1.mono (by decide)) hy.2 rfl T.g__law_alphabet T.iT.kp (b__law_alphabet T.iT) (aj (au 0) (aq))) (aj (aF (cO T) (hy.1.mono (by decide)) hy.2 rfl T.du T.aX.kp (dw T.aX) (aj (au 0) (aj (le_int) (aq)))) (aq)))) <|
    aJ (fY (cR (gD hy.1.units) (au 2) (le_int))
      (aK (aZ (aF (ok__law_promise T) (hy.1.mono (by decide)) hy.2 rfl T.g__law_promise T.jw.kp (b__law_promise T.jw) (aj (au 0) (aq)))))
      (bT)) <|
    aJ (fY (cR (gD hy.1.units) (au 2) (le_int))
      (aK (aZ (aF (ok__law_pair T) (hy.1.mono (by decide)) hy.2 rfl T.g__law_pair T.nu.kp (b__law_pair T.nu) (aj (au 0) (aq)))))
      (bT)) <|
    aJ (fY (cR (gD hy.1.units) (au 2) (le_int))
      (aK (aZ (le_bm PySem.F.plainAttrs_str PySem.F.slot_str_join PySem.F.type_str_join mt_join lm_join (le_str []) (aj (le_lc [("_law_k", 3)] rfl oE.nd (oW rfl T.n_range (aj (aF (cO T) (hy.1.mono (by decide)) hy.2 rfl T.du T.aX.kp (dw T.aX) (aj (au 0) (aj (le_int) (aq)))) (aq))) (blkOk_by (N := M__law_good) (sc := defScope fH) (by decide +kernel)) (by decide) (fun _ _ _ _ _ => dB 3 oE.nd) (fun _ _ _ _ _ => mK) (fun _ _ _ _ _ => aF (cU T) (hy.1.mono (by decide)) hy.2 rfl T.dF T.bh.kp (dD T.bh) (aj (au 0) (aj (bK (aj (le_str [107]) (aj (le_str [100]) (aj (le_str [112]) (aq))))) (aq))))) (aq)))))
      (bT)) <|
    aJ (fY (cR (gD hy.1.units) (au 2) (le_int))
      (aK (aZ (aR (aj (aF (ok__law_text T) (hy.1.mono (by decide)) hy.2 rfl T.g__law_text T.fO.kp (b__law_text T.fO) (aj (au 0) (aj (au 1) (aj (le_int) (aq))))) (aj (aF (ok__law_text T) (hy.1.mono (by decide)) hy.2 rfl T.g__law_text T.fO.kp (b__law_text T.fO) (aj (au 0) (aj (au 1) (aj (le_int) (aq))))) (aq))))))
      (bT)) <|
    aJ (fY (cR (gD hy.1.units) (au 2) (le_int))
      (aK (aZ (aF (cU T) (hy.1.mono (by decide)) hy.2 rfl T.dF T.bh.kp (dD T.bh) (aj (au 0) (aj (bK (aj (le_str [108, 101, 102, 116]) (aj (le_str [114, 105, 103, 104, 116]) (aj (le_str [110, 111, 110, 101]) (aj (le_str [108, 97, 103]) (aj (le_str [116, 111, 116, 97, 108]) (aq))))))) (aq))))))
      (bT)) <|
    aK (aZ (aF (ok__law_text T) (hy.1.mono (by decide)) hy.2 rfl T.g__law_text T.fO.kp (b__law_text T.fO) (aj (au 0) (aj (au 1) (aj (le_int) (aq))))))
theorem ok__law_good : FnG P w K mg base 4 T.f__law_good T.d__law_good ["_law_bag_here"] (lg T.ad) :=
  bZ T.nj oE (len__law_good T.ad) fun cdv A outer s H hr hG => ⟨_, der__law_good T ⟨hr, hG⟩, pure__law_good T.ad⟩
theorem der__law_bent {me : LSp} {dd : Nat} (O__law_bent : FnG P w K mg base (2 + dd) T.mW T.pG ["_law_bag_here", "_law_thing", "_law_depth"] me) (hy : HY (2 + dd) A "_law_bent" g8 s f cdv) : LD P w K mg base M__law_bent "_law_bent" g8 f cdv A outer s H (t__law_bent_k11 T.ad me) :=
    aJ (eQ 3 lL.nd (aF (cO T) (hy.1.mono (by omega)) hy.2 rfl T.du T.aX.kp (dw T.aX) (aj (au 0) (aj (le_int) (aq))))) <|
    aJ (fY (LWe.lt (lw_and (dJ (aQ eY rfl T.n_isinstance boot_isinstance (aj (au 1) (aj (eZ "str" rfl T.n_str boot_str) (aq))))) (lw_and1 (cR lo_lt (au 3) (le_int)))))
      (aJ (eQ 4 lL.nd (aF (cO T) (hy.1.mono (by omega)) hy.2 rfl T.du T.aX.kp (dw T.aX) (aj (au 0) (aj (bz bO (aQ j6 rfl T.n_len boot_len (aj (au 1) (aq))) (le_int)) (aq))))) <|
    aK (aZ (bz bO (bz bO (eV (au 1) (eG) (eO (au 4))) (aF (cU T) (hy.1.mono (by omega)) hy.2 rfl T.dF T.bh.kp (dD T.bh) (aj (au 0) (aj (bK (aj (le_str [107]) (aj (le_str [100]) (aj (le_str [120]) (aj (le_str [32]) (aj (le_str [75]) (aj (le_str [10]) (aj (le_str [108, 101, 102, 116]) (aj (le_str [49]) (aq)))))))))) (aq))))) (eV (au 1) (eO (bz bO (au 4) (fj lc_int rfl T.n_int boot_int (aj (jn (gD hy.1.units) (au 3) (le_int)) (aq))))) (eG)))))
      (bT)) <|
    aJ (fY (LWe.lt (lw_or (jK (dJ (aQ eY rfl T.n_isinstance boot_isinstance (aj (au 1) (aj (eZ "tuple" rfl T.n_tuple boot_tuple) (aq)))))) (lw_or (cR (gD hy.1.units) (au 3) (le_int)) (lw_or1 (cR (gD hy.1.units) (au 2) (le_int))))))
      (aK (aZ (aF (cU T) (hy.1.mono (by omega)) hy.2 rfl T.dF T.bh.kp (dD T.bh) (aj (au 0) (aj (le_call0 (mJ T) (hy.1.mono (by omega)) hy.2 rfl T.oA T.cX.kp (nY T.cX)) (aq))))))
      (bT)) <|
    aJ (eQ 4 lL.nd (aF (cO T) (hy.1.mono (by omega)) hy.2 rfl T.du T.aX.kp (dw T.aX) (aj (au 0) (aj (bz bO (aQ j6 rfl T.n_len boot_len (aj (au 1) (aq))) (le_int)) (aq))))) <|
    aJ (fY (cR (gD hy.1.units) (au 3) (le_int))
      (aK (aZ (fj lc_list rfl T.n_list boot_list (aj (au 1) (aq)))))
      (bT)) <|
    aJ (fY (cR (gD hy.1.units) (au 3) (le_int))
      (aK (aZ (bz bO (bz bO (eV (au 1) (eG) (eO (au 4))) (aR (aj (aF (cU T) (hy.1.mono (by omega)) hy.2 rfl T.dF T.bh.kp (dD T.bh) (aj (au 0) (aj (le_call0 (mJ T) (hy.1.mono (by omega)) hy.2 rfl T.oA T.cX.kp (nY T.cX)) (aq)))) (aq)))) (eV (au 1) (eO (au 4)) (eG)))))
      (bT)) <|
    aJ (fY (cR (gD hy.1.units) (au 3) (le_int))
      (aK (aZ (bz bO (eV (au 1) (eG) (eO (au 4))) (eV (au 1) (eO (bz bO (au 4) (le_int))) (eG)))))
      (bT)) <|
    aJ (fY (cR (lo_eqT0 hy.1.units) (au 1) (aR (aq)))
      (aK (aZ (aR (aj (aF (cU T) (hy.1.mono (by omega)) hy.2 rfl T.dF T.bh.kp (dD T.bh) (aj (au 0) (aj (le_call0 (mJ T) (hy.1.mono (by omega)) hy.2 rfl T.oA T.cX.kp (nY T.cX)) (aq)))) (aq)))))
      (bT)) <|
    aJ (eQ 4 lL.nd (aQ (lc_min rfl) rfl T.n_min boot_min (aj (au 4) (aj (bz lo_sub (aQ j6 rfl T.n_len boot_len (aj (au 1) (aq))) (le_int)) (aq))))) <|
    aK (aZ (bz bO (bz bO (eV (au 1) (eG) (eO (au 4))) (aR (aj (aF O__law_bent (hy.1.mono (by omega)) hy.2 rfl T.g__law_bent T.jr.kp (b__law_bent T.jr) (aj (au 0) (aj (gQ (mD (u1 hy.1)) (au 1) (au 4)) (aj (bz lo_sub (au 2) (le_int)) (aq))))) (aq)))) (eV (au 1) (eO (bz bO (au 4) (le_int))) (eG))))
theorem okR__law_bent : ∀ dd : Nat, FnG P w K mg base (2 + dd) T.mW T.pG ["_law_bag_here", "_law_thing", "_law_depth"] (bU T.ad dd)
  | 0 => fnG_none
  | dd + 1 => bZ T.jr lL (len__law_bent_k11 T.ad dd) fun cdv A outer s H hr hG => ⟨_, der__law_bent T (okR__law_bent dd) ⟨hr, hG⟩, pure__law_bent_k11 T.ad dd⟩
theorem ok__law_bent : FnG P w K mg base 14 T.mW T.pG ["_law_bag_here", "_law_thing", "_law_depth"] (lZ T.ad) := okR__law_bent T 12
theorem der_law (hy : HY 14 A "law" s_law s f cdv) : LD P w K mg base M_law "law" s_law f cdv A outer s H (t_law_k11 T.ad) :=
    aJ (eQ 1 lO.nd (aF (ok__law_bag T) (hy.1.mono (by decide)) hy.2 rfl T.g__law_bag T.oM.kp (b__law_bag T.oM) (aj (au 0) (aq)))) <|
    aJ (ls_setLc 2 [("_law_k", 3)] rfl lO.nd (oW rfl T.n_range (aj (le_int) (aq))) (blkOk_by (N := M_law) (sc := defScope s_law) (by decide +kernel)) (by decide) (fun _ _ _ _ _ => dB 3 lO.nd) (fun _ _ _ _ _ => mK) (fun _ _ _ _ _ => aF (cU T) (hy.1.mono (by decide)) hy.2 rfl T.dF T.bh.kp (dD T.bh) (aj (au 1) (aj (le_call0 (mJ T) (hy.1.mono (by decide)) hy.2 rfl T.oA T.cX.kp (nY T.cX)) (aq))))) <|
    aJ (ls_for PassesOwn.never rfl (oW rfl T.n_range (aj (le_int) (aq))) (dB 3 lO.nd)
      (aJ (eQ 4 lO.nd (aF (ok__law_good T) (hy.1.mono (by decide)) hy.2 rfl T.g__law_good T.nj.kp (b__law_good T.nj) (aj (au 1) (aq)))) <|
    aK (ls_expr (le_bm PySem.F.plainAttrs_list PySem.F.slot_list_extend PySem.F.type_list_extend mt_extend lm_extend (au 2) (aj (bK (aj (au 4) (aj (aF (ok__law_bent T) (hy.1.mono (by decide)) hy.2 rfl T.g__law_bent T.jr.kp (b__law_bent T.jr) (aj (au 1) (aj (au 4) (aj (le_int) (aq))))) (aq)))) (aq)))))) <|
    aJ (ls_for PassesOwn.never rfl (iH (au 2)) (dB 4 lO.nd)
      (aJ (ls_par 5 6 rfl lO.nd (aj (aF (ok__law_dues T) (hy.1.mono (by decide)) hy.2 rfl T.g__law_dues T.jm.kp (b__law_dues T.jm) (aj (au 4) (aq))) (aj (aQ (lc_reprDD T.sysk hy.2 hy.1.units) rfl T.n_repr boot_repr (aj (au 4) (aq))) (aq)))) <|
    aK (ls_for PassesOwn.never rfl (oW rfl T.n_range (aj (le_int) (aq))) (dB 7 lO.nd)
      (aK (fY (LWe.lt (lw_or (jK (dJ (aF (ok__law_alike T) (hy.1.mono (by decide)) hy.2 rfl T.g__law_alike T.d8.kp (b__law_alike T.d8) (aj (aF (ok__law_tolds T) (hy.1.mono (by decide)) hy.2 rfl T.g__law_tolds T.dZ.kp (b__law_tolds T.dZ) (aj (au 4) (aq))) (aj (au 5) (aq)))))) (lw_or1 (cR (lo_ne hy.1.units) (aQ (lc_reprDD T.sysk hy.2 hy.1.units) rfl T.n_repr boot_repr (aj (au 4) (aq))) (au 6)))))
      (aK (aZ (lW)))
      (bT)))))) <|
    aJ (ls_par3 8 9 10 rfl lO.nd (aj (aF (cO T) (hy.1.mono (by decide)) hy.2 rfl T.du T.aX.kp (dw T.aX) (aj (au 1) (aj (le_int) (aq)))) (aj (aF (cU T) (hy.1.mono (by decide)) hy.2 rfl T.dF T.bh.kp (dD T.bh) (aj (au 1) (aj (bK (aj (le_non) (aj (lW) (aj (le_neg (le_int)) (aj (le_str [107]) (aj (aR (aj (le_int) (aq))) (aj (bK (aq)) (aj (bz bO (bz lo_pow (le_int) (le_int)) (le_int)) (aq))))))))) (aq)))) (aj (bz lu (aR (aj (le_int) (aq))) (le_int)) (aq))))) <|
    aJ (eQ 11 lO.nd (aF (cO T) (hy.1.mono (by decide)) hy.2 rfl T.du T.aX.kp (dw T.aX) (aj (au 1) (aj (le_int) (aq))))) <|
    aJ (ls_par 12 2 rfl lO.nd (aj (bz bO (bz bO (eV (au 10) (eG) (eO (au 11))) (aR (aj (au 9) (aq)))) (eV (au 10) (eO (au 11)) (eG))) (aj (bK (aj (bz lu (le_str [107, 100, 112]) (le_int)) (aj (bz bO (bz bO (eV (bz lu (le_str [107, 100, 112]) (le_int)) (eG) (eO (au 8))) (le_str [120])) (eV (bz lu (le_str [107, 100, 112]) (le_int)) (eO (au 8)) (eG))) (aq)))) (aq)))) <|
    aJ (ls_for PassesOwn.never rfl (iH (bz bO (au 2) (bK (aj (au 10) (aj (au 12) (aj (aR (aj (bz lu (aR (aj (le_int) (aq))) (le_int)) (aj (bz lu (aR (aj (le_int) (aq))) (le_int)) (aq)))) (aj (aR (aj (bz lu (aR (aj (le_int) (aq))) (le_int)) (aj (au 12) (aq)))) (aq)))))))) (dB 4 lO.nd)
      (aK (fY (jK (dJ (aF (ok__law_alike T) (hy.1.mono (by decide)) hy.2 rfl T.g__law_alike T.d8.kp (b__law_alike T.d8) (aj (aF (ok__law_tolds T) (hy.1.mono (by decide)) hy.2 rfl T.g__law_tolds T.dZ.kp (b__law_tolds T.dZ) (aj (au 4) (aq))) (aj (aF (ok__law_dues T) (hy.1.mono (by decide)) hy.2 rfl T.g__law_dues T.jm.kp (b__law_dues T.jm) (aj (au 4) (aq))) (aq))))))
      (aK (aZ (lW)))
      (bT)))) <|
    aJ (ls_for PassesOwn.never rfl (iH (aR (aj (le_make T.i_Prices T.k_Prices (iI T) (hy.1.mono (by decide)) hy.2 rfl T.g_Prices (jh T.cY) (aj (le_dnew) (aq))) (aj (aR (aj (le_make T.i_Prices T.k_Prices (iI T) (hy.1.mono (by decide)) hy.2 rfl T.g_Prices (jh T.cY) (aj (le_disp (lps_cons (le_int) (aR (aj (le_int) (aj (le_int) (aq)))) (lps_nil))) (aq))) (aq))) (aj (aR (aj (aR (aq)) (aj (aR (aj (le_make T.i_Prices T.k_Prices (iI T) (hy.1.mono (by decide)) hy.2 rfl T.g_Prices (jh T.cY) (aj (le_dnew) (aq))) (aq))) (aq)))) (aj (bK (aj (le_make T.i_Prices T.k_Prices (iI T) (hy.1.mono (by decide)) hy.2 rfl T.g_Prices (jh T.cY) (aj (le_dnew) (aq))) (aq))) (aq))))))) (dB 4 lO.nd)
      (aK (fY (jK (dJ (aF (ok__law_alike T) (hy.1.mono (by decide)) hy.2 rfl T.g__law_alike T.d8.kp (b__law_alike T.d8) (aj (aF (ok__law_tolds T) (hy.1.mono (by decide)) hy.2 rfl T.g__law_tolds T.dZ.kp (b__law_tolds T.dZ) (aj (au 4) (aq))) (aj (bz lu (bK (aj (lW) (aq))) (le_int)) (aq))))))
      (aK (aZ (lW)))
      (bT)))) <|
    aK (aZ (lW))
theorem ok_law : FnG P w K mg base 15 T.f_law T.d_law ["_law_script"] (spTop 63) :=
  bZ T.F_law lO (fun evs h Q ⟨ns, e, _⟩ => by rw [e]; rfl) fun cdv A outer s H hr hG => ⟨_, der_law T ⟨hr, hG⟩, pure_law_k11 T.ad⟩
end
section
variable {w : World} {K : PySem.W.Frag} {h : Heap} {mg : Str → Option Value}
theorem fs_of (X : K.In h) (G : h.Ns mainGlobals mg) (c : He.SaysX fa fn ts [] exB w h K) : ∃ T : Fs w K mg, T.f_law = He.ga K "law" := by
  have cd := c.t.d
  have more := c.more
  obtain ⟨dd_is_integer, iy⟩ := cd.def_ 0 (d := dD_is_integer) rfl
  obtain ⟨dd_is_between, cI⟩ := cd.def_ 1 (d := dD_is_between) rfl
  obtain ⟨dd_is_letter, fM⟩ := cd.def_ 2 (d := dD_is_letter) rfl
  obtain ⟨dd_is_text, lY⟩ := cd.def_ 3 (d := dD_is_text) rfl
  obtain ⟨dd_is_side, F_is_side⟩ := cd.def_ 4 (d := dD_is_side) rfl
  obtain ⟨dd_is_script, mZ⟩ := cd.def_ 5 (d := dD_is_script) rfl
  obtain ⟨dd_is_promise, lQ⟩ := cd.def_ 6 (d := dD_is_promise) rfl
  obtain ⟨dd_is_pair, F_is_pair⟩ := cd.def_ 7 (d := dD_is_pair) rfl
  obtain ⟨dd_is_going_on, jT⟩ := cd.def_ 8 (d := dD_is_going_on) rfl
  obtain ⟨dd_are_costs, mX⟩ := cd.def_ 9 (d := dD_are_costs) rfl
  obtain ⟨dd_is_price_table, gU⟩ := cd.def_ 10 (d := pQ) rfl
  obtain ⟨dd_Prices___init__, cY⟩ := cd.def_ 11 (d := oN) rfl
  obtain ⟨dd__law_bag, oM⟩ := cd.def_ 12 (d := dD__law_bag) rfl
  obtain ⟨dd__law_take, aX⟩ := cd.def_ 13 (d := dD__law_take) rfl
  obtain ⟨dd__law_one, bh⟩ := cd.def_ 14 (d := dD__law_one) rfl
  obtain ⟨dd__law_mixed, lM⟩ := cd.def_ 15 (d := dD__law_mixed) rfl
  obtain ⟨dd__law_alphabet, iT⟩ := cd.def_ 16 (d := dD__law_alphabet) rfl
  obtain ⟨dd__law_text, fO⟩ := cd.def_ 17 (d := dD__law_text) rfl
  obtain ⟨dd__law_pair, nu⟩ := cd.def_ 18 (d := dD__law_pair) rfl
  obtain ⟨dd__law_promise, jw⟩ := cd.def_ 19 (d := dD__law_promise) rfl
  obtain ⟨dd__law_alike, d8⟩ := cd.def_ 20 (d := dD__law_alike) rfl
  obtain ⟨dd__law_integer, bW⟩ := cd.def_ 21 (d := dD__law_integer) rfl
  obtain ⟨dd__law_letter, gA⟩ := cd.def_ 22 (d := dD__law_letter) rfl
  obtain ⟨dd__law_is_text, eU⟩ := cd.def_ 23 (d := dD__law_is_text) rfl
  obtain ⟨dd__law_is_script, gM⟩ := cd.def_ 24 (d := pH) rfl
  obtain ⟨dd__law_is_side, jo⟩ := cd.def_ 25 (d := dD__law_is_side) rfl
  obtain ⟨dd__law_is_pair, ju⟩ := cd.def_ 26 (d := dD__law_is_pair) rfl
  obtain ⟨dd__law_is_promise, fP⟩ := cd.def_ 27 (d := oY) rfl
  obtain ⟨dd__law_is_going_on, eX⟩ := cd.def_ 28 (d := nO) rfl
  obtain ⟨dd__law_dues, jm⟩ := cd.def_ 29 (d := dD__law_dues) rfl
  obtain ⟨dd__law_tolds, dZ⟩ := cd.def_ 30 (d := dD__law_tolds) rfl
  obtain ⟨dd__law_plain, cX⟩ := cd.def_ 31 (d := dD__law_plain) rfl
  obtain ⟨dd__law_good, nj⟩ := cd.def_ 32 (d := dD__law_good) rfl
  obtain ⟨dd__law_bent, jr⟩ := cd.def_ 33 (d := dD__law_bent) rfl
  obtain ⟨dd_law, F_law⟩ := cd.def_ 34 (d := dD_law) rfl
  have c_STEPS : ∃ t, mg "STEPS" = some (.str (S [107, 100, 112]) t) := by
    have q := He.str_ok X G (cd.fact 57 (f := .str "STEPS" "kdp") rfl)
    have e : ("kdp" : Str) = S [107, 100, 112] := by decide +kernel
    rw [e] at q
    exact q
  exact ⟨⟨⟨He.ga K "Book", He.ga K "Comparer", He.ga K "Watch", He.ga K "GainTable", He.ga K "GameTable", He.ga K "Lane", He.ga K "Machine", He.ga K "Nearest", He.ga K "Prices", He.ga K "Rulebook", He.ga K "Sender", He.ga K "Speaker", He.ga K "Standing", He.ga K "Writer", He.ga K "Tails", He.ga K "Teasing", He.ga K "VersusTable", He.ga K "WaitTable", He.ga K "TURNED", He.ga K "WORD_OF", He.ga K "WORDS", He.ga K "STEP_OF", He.ga K "EarlyError", He.ga K "AlreadyEnded", He.ga K "BadArrow", He.ga K "BadLine", He.ga K "BadRule", He.ga K "BeyondEnd", He.ga K "Broken", He.ga K "Contradiction", He.ga K "DoesNotFit", He.ga K "Ended", He.ga K "EndsShort", He.ga K "Finished", He.ga K "KeepNotShown", He.ga K "NeedsNoPromise", He.ga K "NoDeed", He.ga K "NoElder", He.ga K "NoRule", He.ga K "NoSaying", He.ga K "NoStand", He.ga K "NoSuchLetter", He.ga K "NoTick", He.ga K "NoWait", He.ga K "NotARing", He.ga K "NotAScript", He.ga K "NotAWalk", He.ga K "NotClaimed", He.ga K "NotComparable", He.ga K "NotHeights", He.ga K "NotLet", He.ga K "NotOnRim", He.ga K "NotSent", He.ga K "NotWhole", He.ga K "Nothing", He.ga K "Stopped", He.ga K "TooMany", He.ga K "UnderLag", He.ga K "UnderTotal", He.ga K "Unsettled", He.ga K "Wrong"⟩, He.fAd K ("is_integer", none), dd_is_integer, iy, He.glo_ok X G (cd.fact 0 (f := .glo "is_integer") rfl), He.fAd K ("is_between", none), dd_is_between, cI, He.glo_ok X G (cd.fact 1 (f := .glo "is_between") rfl), He.fAd K ("is_letter", none), dd_is_letter, fM, He.glo_ok X G (cd.fact 2 (f := .glo "is_letter") rfl), He.fAd K ("is_text", none), dd_is_text, lY, He.glo_ok X G (cd.fact 3 (f := .glo "is_text") rfl), He.fAd K ("is_side", none), dd_is_side, F_is_side, He.glo_ok X G (cd.fact 4 (f := .glo "is_side") rfl), He.fAd K ("is_script", none), dd_is_script, mZ, He.glo_ok X G (cd.fact 5 (f := .glo "is_script") rfl), He.fAd K ("is_promise", none), dd_is_promise, lQ, He.glo_ok X G (cd.fact 6 (f := .glo "is_promise") rfl), He.fAd K ("is_pair", none), dd_is_pair, F_is_pair, He.glo_ok X G (cd.fact 7 (f := .glo "is_pair") rfl), He.fAd K ("is_going_on", none), dd_is_going_on, jT, He.glo_ok X G (cd.fact 8 (f := .glo "is_going_on") rfl), He.fAd K ("are_costs", none), dd_are_costs, mX, He.glo_ok X G (cd.fact 9 (f := .glo "are_costs") rfl), He.fAd K ("is_price_table", none), dd_is_price_table, gU, He.glo_ok X G (cd.fact 10 (f := .glo "is_price_table") rfl), He.fAd K ("Prices", some "__init__"), dd_Prices___init__, cY, He.mkr_ok (cd.fact 11 (f := .mkr "Prices") rfl), isiOkB_ok (He.ba (He.ba (He.ba (He.ba more).1).1).1).2, He.fAd K ("_law_bag", none), dd__law_bag, oM, He.glo_ok X G (cd.fact 12 (f := .glo "_law_bag") rfl), He.fAd K ("_law_take", none), dd__law_take, aX, He.glo_ok X G (cd.fact 13 (f := .glo "_law_take") rfl), He.fAd K ("_law_one", none), dd__law_one, bh, He.glo_ok X G (cd.fact 14 (f := .glo "_law_one") rfl), He.fAd K ("_law_mixed", none), dd__law_mixed, lM, He.glo_ok X G (cd.fact 15 (f := .glo "_law_mixed") rfl), He.fAd K ("_law_alphabet", none), dd__law_alphabet, iT, He.glo_ok X G (cd.fact 16 (f := .glo "_law_alphabet") rfl), He.fAd K ("_law_text", none), dd__law_text, fO, He.glo_ok X G (cd.fact 17 (f := .glo "_law_text") rfl), He.fAd K ("_law_pair", none), dd__law_pair, nu, He.glo_ok X G (cd.fact 18 (f := .glo "_law_pair") rfl), He.fAd K ("_law_promise", none), dd__law_promise, jw, He.glo_ok X G (cd.fact 19 (f := .glo "_law_promise") rfl), He.fAd K ("_law_alike", none), dd__law_alike, d8, He.glo_ok X G (cd.fact 20 (f := .glo "_law_alike") rfl), He.fAd K ("_law_integer", none), dd__law_integer, bW, He.glo_ok X G (cd.fact 21 (f := .glo "_law_integer") rfl), He.fAd K ("_law_letter", none), dd__law_letter, gA, He.glo_ok X G (cd.fact 22 (f := .glo "_law_letter") rfl), He.fAd K ("_law_is_text", none), dd__law_is_text, eU, He.glo_ok X G (cd.fact 23 (f := .glo "_law_is_text") rfl), He.fAd K ("_law_is_script", none), dd__law_is_script, gM, He.glo_ok X G (cd.fact 24 (f := .glo "_law_is_script") rfl), He.fAd K ("_law_is_side", none), dd__law_is_side, jo, He.glo_ok X G (cd.fact 25 (f := .glo "_law_is_side") rfl), He.fAd K ("_law_is_pair", none), dd__law_is_pair, ju, He.glo_ok X G (cd.fact 26 (f := .glo "_law_is_pair") rfl), He.fAd K ("_law_is_promise", none), dd__law_is_promise, fP, He.glo_ok X G (cd.fact 27 (f := .glo "_law_is_promise") rfl), He.fAd K ("_law_is_going_on", none), dd__law_is_going_on, eX, He.glo_ok X G (cd.fact 28 (f := .glo "_law_is_going_on") rfl), He.fAd K ("_law_dues", none), dd__law_dues, jm, He.glo_ok X G (cd.fact 29 (f := .glo "_law_dues") rfl), He.fAd K ("_law_tolds", none), dd__law_tolds, dZ, He.glo_ok X G (cd.fact 30 (f := .glo "_law_tolds") rfl), He.fAd K ("_law_plain", none), dd__law_plain, cX, He.glo_ok X G (cd.fact 31 (f := .glo "_law_plain") rfl), He.fAd K ("_law_good", none), dd__law_good, nj, He.glo_ok X G (cd.fact 32 (f := .glo "_law_good") rfl), He.fAd K ("_law_bent", none), dd__law_bent, jr, He.glo_ok X G (cd.fact 33 (f := .glo "_law_bent") rfl), He.fAd K ("law", none), dd_law, F_law, He.glo_ok X G (cd.fact 34 (f := .glo "law") rfl), He.glo_ok X G (cd.fact 35 (f := .glo "Prices") rfl), sclsB_ok (He.ba (He.ba (He.ba (He.ba (He.ba more).1).1).1).1).1, slotB_ok (He.ba (He.ba (He.ba (He.ba (He.ba more).1).1).1).1).2, sysB_ok (He.ba (He.ba (He.ba more).1).1).2, He.free_ok X G (cd.fact 36 (f := .free "abs") rfl), He.free_ok X G (cd.fact 37 (f := .free "all") rfl), He.free_ok X G (cd.fact 38 (f := .free "bool") rfl), He.free_ok X G (cd.fact 39 (f := .free "dict") rfl), He.free_ok X G (cd.fact 40 (f := .free "int") rfl), He.free_ok X G (cd.fact 41 (f := .free "isinstance") rfl), He.free_ok X G (cd.fact 42 (f := .free "len") rfl), He.free_ok X G (cd.fact 43 (f := .free "list") rfl), He.free_ok X G (cd.fact 44 (f := .free "min") rfl), He.free_ok X G (cd.fact 45 (f := .free "range") rfl), He.free_ok X G (cd.fact 46 (f := .free "repr") rfl), He.free_ok X G (cd.fact 47 (f := .free "sorted") rfl), He.free_ok X G (cd.fact 48 (f := .free "str") rfl), He.free_ok X G (cd.fact 49 (f := .free "tuple") rfl), He.int_ok X G (cd.fact 50 (f := .int "GREATEST_LAG" 4) rfl), He.int_ok X G (cd.fact 51 (f := .int "GREATEST_LETTER" 1000000000) rfl), He.int_ok X G (cd.fact 52 (f := .int "GREATEST_OF_PAIR" 3) rfl), He.int_ok X G (cd.fact 53 (f := .int "GREATEST_PRICE" 9) rfl), He.int_ok X G (cd.fact 54 (f := .int "GREATEST_TOTAL" 60) rfl), He.ga K "PLAIN", He.glo_ok X G (cd.fact 55 (f := .glo "PLAIN") rfl), tupB_ok (He.ba (He.ba more).1).2, He.ga K "SIDE_WORDS", He.glo_ok X G (cd.fact 56 (f := .glo "SIDE_WORDS") rfl), tupB_ok (He.ba more).2, c_STEPS⟩, rfl⟩
end
end Y
open PySem PySem.W PySem.Calls PyProof.Rows
theorem PySem.Challenge.cw_saidearly_k11_forms_of_any_value_holds : PySem.Challenge.rw_saidearly_k11_forms_of_any_value.Holds := by
  refine Y.pre_saidearly_k11_forms_of_any_value fun w K mg fa h KX c G hmg => ?_
  obtain ⟨T, eT⟩ := Y.fs_of KX G c
  have e := T.g_law.symm.trans hmg
  have e2 : T.f_law = fa := Value.ref.inj (Option.some.inj e)
  subst e2
  have b := L2.FunD.bindsA (ps := ["_law_script"]) T.F_law fun _ _ _ _ _ _ us hl => match us, hl with | [_], _ => rfl
  exact ⟨T.d_law, fun s u => b s [u] rfl, fun base _ _ => Y.ok_law T⟩
