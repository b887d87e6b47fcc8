import PyProof.Rows.All
import Wide.All
import OpenK.AllK
import Wide.FinOn
import HandS.Base
import HandS.Call
import HandS.List
import HandS.Comp
import HandS.Dict
import HandS.Iter
import HandS.Text
import HandS.More
import HandS.Exc
import HandS.Slots
import KE.KIsNot
import KE.KIsAll
import HandS.Wide
import HandS.TupAny
import KE.DataEq
import HandS.TryOnly
import HandS.Words
import HandS.Defaults
import HandS.Ends
import HandS.HeadEnd
import HandS.TupMul
import HandS.WordsDict
import HandS.RaiseMore
import KE.GoesNew
import KE.GoesEnum
import PyProof.ReprLen
import HandS.Star
import HandS.Deep
import HandS.SetFor
import HandS.Zip
import HandS.Style
import KE.KIndexOf
import HandS.IsInst
import HandS.DictComp
import HandS.SlotsOwn
import HandS.Head0
import HandS.Head1
import HandS.Head2
import HandS.HeadHook1
import HandS.HeadHook2
import HandS.HeadHook3
import HandS.HeadHook4
import HandS.Conv
import PyProof.EnumMake
import KE.KDictDisplayH
import KE.KRevSl
import KE.KDictList
import HandS.Flow
import HandS.DictEq
import HandS.ExcInit
import HandS.ExcField
import HandS.ExcOwn
import KE.KExcSuper
import KE.KExcRaise
import HandS.TryMany
import KE.GoesEnumKw
import HandS.SortKw
import HandS.Finally
import KE.KDictKeyed
import KE.KDictPairs
import KE.KDictZip
import PyProof.Rows.ZipGen
import PyProof.ZipIter
import PyProof.Rows.SortShellAny
import HandS.Strs
import KE.KEqNest
import PyProof.NeKinds
import HandS.Codes
import KE.LtData
import KE.DataMinMax
import HandS.SetKeys
import PyProof.DictMoreH
import KE.KDictWalk
import HandS.DictTup
import KE.SortData
import KE.KDictSum
import HandS.ExcValue
import HandS.ExcIs
import KE.KEqDict
import HandS.StrMore
import HandS.TupSets
import KE.KStateDown
import PySem.Challenge.RW_saidearly_k89_waits_of_two_texts
set_option Elab.async false
set_option linter.all false
set_option maxRecDepth 100000
set_option maxHeartbeats 0
namespace Y
open PySem PySem.Spec PyProof.Rows L2
theorem gZ {α : Type _} {a : α} {l : List α} : (a :: l)[0]? = some a := rfl
theorem gS {α : Type _} {a : α} {l : List α} {i : Nat} : (a :: l)[i+1]? = l[i]? := rfl
theorem sZ {α : Type _} {a b : α} {l : List α} : (a :: l).set 0 b = b :: l := rfl
theorem sS {α : Type _} {a b : α} {l : List α} {i : Nat} : (a :: l).set (i+1) b = a :: l.set i b := rfl
inductive EV where
  | non | bl (b : Bool) | int (i : Int) | str (s : List Nat) | tup (xs : List EV) | ktup (xs : List EV) | ref (r : Nat) | adr (a : Addr) | ty (n : String)
inductive EO where
  | lst (xs : List EV) | frz (xs : List EV) | dic (kvs : List (EV × EV)) | dct (kvs : List (EV × EV)) | ins (C : Addr) (fs : List (Str × EV)) | slo (C : Addr) (vs : List (Option EV)) | dlk (o : Obj) (l : List (L2.Key × V)) (kvs : List (EV × EV)) | dlt (o : Obj) (l : List (List L2.Key × V)) (kvs : List (EV × EV)) | xob (fs : List (Str × EV)) | mark (m : Nat → Addr) (n : Nat) (H : Hp) | exv (C : Addr) (d : Option Nat) | gone
abbrev En := List (Option EV)
abbrev EH := List EO
abbrev EK := EV → EH → Prop
abbrev LT := En → EH → EK → Prop
abbrev S (l : List Nat) : Str := ⟨l.toArray⟩
def NoTup (u : HO) : Prop := (∀ xs, u ≠ .tup xs) ∧ (∀ q xs, u ≠ .frz q (.tup xs)) ∧ (∀ q xs, u ≠ .frz q (.lst xs)) ∧ (∀ l, u ≠ .xd l) ∧ ∀ y, u ≠ .own y
def FrzL (K : PySem.W.Frag) (H : Hp) (a : Addr) (xs : List V) : Prop := (∃ o, H a = some (.frz o (.lst xs))) ∨
  ∃ (o : Obj) (its : Array Value) (n : Nat), K.lookup a = some o ∧ o.cls = .type "list" ∧ o.dict = none ∧ o.data = .seq its n ∧ its.size ≤ sizeLine ∧ Vals xs its.toList
theorem FrzL.sql {K : PySem.W.Frag} {H : Hp} {a : Addr} {xs : List V} (h : FrzL K H a xs) : SqL K H a xs := by
  rcases h with ⟨o, h⟩ | h
  · exact .inl (.inr ⟨o, h⟩)
  · exact .inr h
def ExA (C a : Addr) (d : Option Addr) : Heap → Prop := fun h => ∃ (oe : Obj) (vs : Array Value), h.get? a = some oe ∧ Zc (.ref C) d oe ∧ oe.data = .fields vs
def isF : EO → Bool
  | .frz _ => true
  | .xob _ => true
  | .mark .. => true
  | _ => false
def mY : List EV → Option (List L2.Key)
  | [] => some []
  | .int i :: r => (mY r).map (Sum.inl i :: ·)
  | .str s :: r => (mY r).map (Sum.inr (S s) :: ·)
  | _ => none
def keyL : EV → Option (List L2.Key)
  | .tup ks => mY ks
  | _ => none
structure Ex (K : PySem.W.Frag) (m : Nat → Addr) (n : Nat) (H : Hp) (m' : Nat → Addr) (n' : Nat) (H' : Hp) : Prop where
  le : n ≤ n'
  eq : ∀ r, r < n → m' r = m r
  tup : ∀ a xs, SqT K H a xs → SqT K H' a xs
  tk : ∀ a xs, H a = some (.tup xs) → H' a = some (.tup xs)
structure IsiOk (K : PySem.W.Frag) (C : Addr) : Prop where
  pg : PySem.W.plainGet K C "__class__" = true
  ic : PySem.W.isClsIn K C = true
  cl : PySem.W.findIn K (.ref C) "__class__" = some (some (.builtin "object.__class__"))
  gt : PySem.W.specialIn K (.builtin "object.__class__") "__get__" = some (some (.builtin "getset_descriptor.__get__"))
  tk : PySem.W.takesIn K (.builtin "object.__class__") = some true
  mo : PySem.W.mroIn K C (.type "object") = some true
  ty : ∀ T ∈ ["int", "bool", "str", "tuple", "dict", "list"], PySem.W.kitOne K (.ref C) (.type T) = some false
section rel
variable (K : PySem.W.Frag) (m : Nat → Addr) (n : Nat) (H : Hp)
mutual
def az : EV → V → Prop
  | .non, v => v = .non
  | .bl b, v => v = .bl b
  | .int i, v => v = .int i
  | .str s, v => v = .str (S s)
  | .tup xs, v => ∃ a vs, v = .ref a ∧ H a = some (.tup vs) ∧ aG xs vs
  | .ktup xs, v => ∃ a vs, v = .ref a ∧ SqT K H a vs ∧ aG xs vs
  | .ref r, v => r < n ∧ v = .ref (m r)
  | .adr a, v => v = .ref a
  | .ty t, v => v = .ty t
def aG : List EV → List V → Prop
  | [], vs => vs = []
  | x :: xs, vs => ∃ v r, vs = v :: r ∧ az x v ∧ aG xs r
end
def bK : List (EV × EV) → List (L2.Key × V) → Prop
  | [], l => l = []
  | (k, x) :: r, l => ∃ k' v l', l = (k', v) :: l' ∧ az K m n H k (kV k') ∧ az K m n H x v ∧ bK r l'
def bY : List (EV × EV) → List (List L2.Key × V) → Prop
  | [], l => l = []
  | (k, x) :: r, l => ∃ k' v l', l = (k', v) :: l' ∧ keyL k = some k' ∧ az K m n H x v ∧ bY r l'
def RelFs : List (Str × EV) → List (Str × V) → Prop
  | [], l => l = []
  | (f, x) :: r, l => ∃ v l', l = (f, v) :: l' ∧ az K m n H x v ∧ RelFs r l'
def RelO : EO → Addr → Prop
  | .lst xs, a => ∃ vs, H a = some (.lst vs) ∧ aG K m n H xs vs
  | .frz xs, a => ∃ vs, FrzL K H a vs ∧ aG K m n H xs vs
  | .dic kvs, a => ∃ l, H a = some (.dK l) ∧ bK K m n H kvs l
  | .dct kvs, a => ∃ l, H a = some (.dT l) ∧ bY K m n H kvs l
  | .ins C fs, a => ∃ dx l, H a = some (.ins C dx l) ∧ RelFs K m n H fs l
  | .slo C vs, a => IsiOk K C ∧ ∃ dx ws, SlX.Slt H a C dx ws ∧ dx ≠ a ∧ (H dx = some (.own a) ∨ H dx = some (.xd [])) ∧ ∀ (i : Nat) (v : EV), vs[i]? = some (some v) → ∃ w, ws[i]? = some (some w) ∧ az K m n H v w
  | .dlk o l kvs, a => H a = some (.frz o (.dK l)) ∧ bK K m n H kvs l
  | .dlt o l kvs, a => H a = some (.frz o (.dT l)) ∧ bY K m n H kvs l
  | .xob fs, a => ∃ l, H a = some (.xd l) ∧ RelFs K m n H fs l
  | .mark m0 n0 H0, _ => Ex K m0 n0 H0 m n H
  | .exv C d, a => (∀ q, d = some q → q < n) ∧ H a = some (.ext (ExA C a (d.map m)))
  | .gone, a => ∃ o, H a = some o ∧ NoTup o
end rel
structure dD (K : PySem.W.Frag) (m : Nat → Addr) (h : EH) (H : Hp) : Prop where
  obj : ∀ r o, h[r]? = some o → RelO K m h.length H o (m r)
  inj : ∀ r q o u, h[r]? = some o → h[q]? = some u → isF o = false → isF u = false → m r = m q → r = q
def RelN (K : PySem.W.Frag) (m : Nat → Addr) (n : Nat) (H : Hp) (env : En) (σ : L2.St) : Prop :=
  env.length = σ.length ∧ ∀ (i : Nat) (v : EV), env[i]? = some (some v) → ∃ x, σ[i]? = some (some x) ∧ az K m n H v x
section
variable {K : PySem.W.Frag} {m m' m2 : Nat → Addr} {n n' n2 : Nat} {H H' H2 : Hp}
theorem Ex.refl : Ex K m n H m n H := ⟨Nat.le_refl _, fun _ _ => rfl, fun _ _ h => h, fun _ _ h => h⟩
theorem Ex.trans (a : Ex K m n H m' n' H') (b : Ex K m' n' H' m2 n2 H2) : Ex K m n H m2 n2 H2 :=
  ⟨Nat.le_trans a.le b.le, fun r h => (b.eq r (Nat.lt_of_lt_of_le h a.le)).trans (a.eq r h), fun x xs h => b.tup x xs (a.tup x xs h), fun x xs h => b.tk x xs (a.tk x xs h)⟩
mutual
theorem az.ex (E : Ex K m n H m' n' H') : ∀ (e : EV) (v : V), az K m n H e v → az K m' n' H' e v
  | .non, v, h => by rw [az] at h ⊢; exact h
  | .bl _, v, h => by rw [az] at h ⊢; exact h
  | .int _, v, h => by rw [az] at h ⊢; exact h
  | .str _, v, h => by rw [az] at h ⊢; exact h
  | .adr _, v, h => by rw [az] at h ⊢; exact h
  | .ty _, v, h => by rw [az] at h ⊢; exact h
  | .ref r, v, h => by
    rw [az] at h ⊢
    exact ⟨Nat.lt_of_lt_of_le h.1 E.le, by rw [E.eq r h.1]; exact h.2⟩
  | .tup xs, v, h => by
    rw [az] at h ⊢
    obtain ⟨a, vs, e, q, r⟩ := h
    exact ⟨a, vs, e, E.tk a vs q, aG.ex E xs vs r⟩
  | .ktup xs, v, h => by
    rw [az] at h ⊢
    obtain ⟨a, vs, e, q, r⟩ := h
    exact ⟨a, vs, e, E.tup a vs q, aG.ex E xs vs r⟩
theorem aG.ex (E : Ex K m n H m' n' H') : ∀ (es : List EV) (vs : List V), aG K m n H es vs → aG K m' n' H' es vs
  | [], vs, h => by rw [aG] at h ⊢; exact h
  | x :: xs, vs, h => by
    rw [aG] at h ⊢
    obtain ⟨v, r, e, q, t⟩ := h
    exact ⟨v, r, e, az.ex E x v q, aG.ex E xs r t⟩
end
theorem bK.ex (E : Ex K m n H m' n' H') : ∀ (l : List (EV × EV)) (l' : List (L2.Key × V)), bK K m n H l l' → bK K m' n' H' l l'
  | [], l', h => h
  | (k, x) :: r, l', h => by
    obtain ⟨k', v, l2, e, a, b, c⟩ := h
    exact ⟨k', v, l2, e, az.ex E _ _ a, az.ex E _ _ b, bK.ex E r l2 c⟩
theorem bY.ex (E : Ex K m n H m' n' H') : ∀ (l : List (EV × EV)) (l' : List (List L2.Key × V)), bY K m n H l l' → bY K m' n' H' l l'
  | [], l', h => h
  | (k, x) :: r, l', h => by
    obtain ⟨k', v, l2, e, a, b, c⟩ := h
    exact ⟨k', v, l2, e, a, az.ex E _ _ b, bY.ex E r l2 c⟩
theorem RelFs.ex (E : Ex K m n H m' n' H') : ∀ (l : List (Str × EV)) (l' : List (Str × V)), RelFs K m n H l l' → RelFs K m' n' H' l l'
  | [], l', h => h
  | (k, x) :: r, l', h => by
    obtain ⟨v, l2, e, b, c⟩ := h
    exact ⟨v, l2, e, az.ex E _ _ b, RelFs.ex E r l2 c⟩
theorem RelN.ex (E : Ex K m n H m' n' H') {env : En} {σ : L2.St} (R : RelN K m n H env σ) : RelN K m' n' H' env σ :=
  ⟨R.1, fun i v h => let ⟨x, a, b⟩ := R.2 i v h; ⟨x, a, az.ex E _ _ b⟩⟩
theorem RelO.ex (E : Ex K m n H m' n' H') {o : EO} {a : Addr} (he : H' a = H a) (hx : ∀ b, (H b = some (.xd []) → H' b = some (.xd [])) ∧ (H b = some (.own a) → H' b = some (.own a))) (R : RelO K m n H o a) : RelO K m' n' H' o a := by
  cases o with
  | lst xs => obtain ⟨vs, e, r⟩ := R; exact ⟨vs, he.trans e, aG.ex E _ _ r⟩
  | frz xs =>
    obtain ⟨vs, e, r⟩ := R
    refine ⟨vs, ?_, aG.ex E _ _ r⟩
    rcases e with ⟨o, e⟩ | e
    · exact .inl ⟨o, he.trans e⟩
    · exact .inr e
  | dic xs => obtain ⟨vs, e, r⟩ := R; exact ⟨vs, he.trans e, bK.ex E _ _ r⟩
  | dct xs => obtain ⟨vs, e, r⟩ := R; exact ⟨vs, he.trans e, bY.ex E _ _ r⟩
  | ins C fs => obtain ⟨dx, vs, e, r⟩ := R; exact ⟨dx, vs, he.trans e, RelFs.ex E _ _ r⟩
  | xob fs => obtain ⟨l, e, r⟩ := R; exact ⟨l, he.trans e, RelFs.ex E _ _ r⟩
  | mark m0 n0 H0 => exact Ex.trans R E
  | slo C fs =>
    obtain ⟨io, dx, ws, e, ne, hd, r⟩ := R
    refine ⟨io, dx, ws, ?_, ne, hd.imp (hx _).2 (hx _).1, fun i v q => let ⟨w, a, b⟩ := r i v q; ⟨w, a, az.ex E _ _ b⟩⟩
    rcases e with ⟨e, z⟩ | ⟨e, z⟩
    · exact .inl ⟨he.trans e, z⟩
    · exact .inr ⟨he.trans e, (hx _).1 z⟩
  | dlk o l xs => obtain ⟨e, r⟩ := R; exact ⟨he.trans e, bK.ex E _ _ r⟩
  | dlt o l xs => obtain ⟨e, r⟩ := R; exact ⟨he.trans e, bY.ex E _ _ r⟩
  | exv C d => exact ⟨fun q z => Nat.lt_of_lt_of_le (R.1 q z) E.le, by rw [he, R.2, show d.map m' = d.map m from by cases d with | none => rfl | some q => exact congrArg some (E.eq q (R.1 q rfl))]⟩
  | gone => obtain ⟨o, e, r⟩ := R; exact ⟨o, he.trans e, r⟩
theorem RelO.there {o : EO} {a : Addr} (R : RelO K m n H o a) (hf : isF o = false) : ∃ u, H a = some u ∧ NoTup u := by
  cases o with
  | lst xs => obtain ⟨vs, e, r⟩ := R; exact ⟨_, e, fun _ z => (nomatch z), fun _ _ z => (nomatch z), fun _ _ z => (nomatch z), fun _ z => (nomatch z), fun _ z => nomatch z⟩
  | frz xs => cases hf
  | dic xs => obtain ⟨vs, e, r⟩ := R; exact ⟨_, e, fun _ z => (nomatch z), fun _ _ z => (nomatch z), fun _ _ z => (nomatch z), fun _ z => (nomatch z), fun _ z => nomatch z⟩
  | dct xs => obtain ⟨vs, e, r⟩ := R; exact ⟨_, e, fun _ z => (nomatch z), fun _ _ z => (nomatch z), fun _ _ z => (nomatch z), fun _ z => (nomatch z), fun _ z => nomatch z⟩
  | ins C fs => obtain ⟨dx, vs, e, r⟩ := R; exact ⟨_, e, fun _ z => (nomatch z), fun _ _ z => (nomatch z), fun _ _ z => (nomatch z), fun _ z => (nomatch z), fun _ z => nomatch z⟩
  | xob fs => cases hf
  | mark m0 n0 H0 => cases hf
  | slo C fs =>
    obtain ⟨_, dx, ws, e, _, _, r⟩ := R
    rcases e with ⟨e, z⟩ | ⟨e, z⟩
    · exact ⟨_, e, fun _ z => (nomatch z), fun _ _ z => (nomatch z), fun _ _ z => (nomatch z), fun _ z => (nomatch z), fun _ z => nomatch z⟩
    · refine ⟨_, e, ?_⟩
      unfold SlX.SlO
      exact ⟨fun _ z => (nomatch z), fun _ _ z => (nomatch z), fun _ _ z => (nomatch z), fun _ z => (nomatch z), fun _ z => nomatch z⟩
  | dlk o l xs => obtain ⟨e, r⟩ := R; exact ⟨_, e, fun _ z => (nomatch z), fun _ _ z => (by cases z), fun _ _ z => (by cases z), fun _ z => (nomatch z), fun _ z => nomatch z⟩
  | dlt o l xs => obtain ⟨e, r⟩ := R; exact ⟨_, e, fun _ z => (nomatch z), fun _ _ z => (by cases z), fun _ _ z => (by cases z), fun _ z => (nomatch z), fun _ z => nomatch z⟩
  | exv C d => exact ⟨_, R.2, fun _ z => (nomatch z), fun _ _ z => (nomatch z), fun _ _ z => (nomatch z), fun _ z => (nomatch z), fun _ z => nomatch z⟩
  | gone => obtain ⟨o, e, r⟩ := R; exact ⟨o, e, r⟩
theorem RelO.off (E : Ex K m n H m' n' H') {o : EO} {a p : Addr} (R : RelO K m n H o a) (hp : ∀ u, H p = some u → NoTup u) (h : isF o = false → a ≠ p) (he : a ≠ p → H' a = H a) (hx : ∀ b, (H b = some (.xd []) → H' b = some (.xd [])) ∧ (H b = some (.own a) → H' b = some (.own a))) : RelO K m' n' H' o a := by
  by_cases z : a = p
  · subst z
    cases o with
    | frz xs =>
      obtain ⟨vs, e, r⟩ := R
      refine ⟨vs, ?_, aG.ex E _ _ r⟩
      rcases e with ⟨o, e⟩ | e
      · exact absurd rfl ((hp _ e).2.2.1 o vs)
      · exact .inr e
    | xob fs =>
      obtain ⟨l, e, r⟩ := R
      exact absurd rfl ((hp _ e).2.2.2.1 l)
    | mark m0 n0 H0 => exact Ex.trans R E
    | _ => exact absurd rfl (h rfl)
  · exact R.ex E (he z) hx
theorem aG.length : ∀ {es : List EV} {vs : List V}, aG K m n H es vs → es.length = vs.length
  | [], vs, h => by rw [aG] at h; subst h; rfl
  | x :: xs, vs, h => by
    rw [aG] at h
    obtain ⟨v, r, e, _, t⟩ := h
    subst e
    simp [aG.length t]
theorem aG.at : ∀ {es : List EV} {vs : List V} {i : Nat} {x : EV}, aG K m n H es vs → es[i]? = some x → ∃ v, vs[i]? = some v ∧ az K m n H x v
  | [], vs, i, x, h, e => by simp at e
  | y :: ys, vs, 0, x, h, e => by
    rw [aG] at h
    obtain ⟨v, r, rfl, q, t⟩ := h
    simp at e; subst e
    exact ⟨v, rfl, q⟩
  | y :: ys, vs, i + 1, x, h, e => by
    rw [aG] at h
    obtain ⟨v, r, rfl, q, t⟩ := h
    obtain ⟨u, a, b⟩ := aG.at (i := i) (x := x) t (by simpa using e)
    exact ⟨u, by simpa using a, b⟩
theorem aG.app : ∀ {es fs : List EV} {vs us : List V}, aG K m n H es vs → aG K m n H fs us → aG K m n H (es ++ fs) (vs ++ us)
  | [], fs, vs, us, h, g => by rw [aG] at h; subst h; exact g
  | y :: ys, fs, vs, us, h, g => by
    rw [aG] at h
    obtain ⟨v, r, rfl, q, t⟩ := h
    rw [List.cons_append, List.cons_append, aG]
    exact ⟨v, r ++ us, rfl, q, aG.app t g⟩
theorem aG.nil : aG K m n H [] [] := by rw [aG]
theorem aG.cons {x : EV} {v : V} {xs : List EV} {vs : List V} (a : az K m n H x v) (b : aG K m n H xs vs) : aG K m n H (x :: xs) (v :: vs) := by
  rw [aG]; exact ⟨v, vs, rfl, a, b⟩
theorem aG.one {x : EV} {v : V} (a : az K m n H x v) : aG K m n H [x] [v] := .cons a .nil
theorem aG.take : ∀ {es : List EV} {vs : List V} (k : Nat), aG K m n H es vs → aG K m n H (es.take k) (vs.take k)
  | _, _, 0, _ => by simpa using aG.nil
  | [], vs, k + 1, h => by rw [aG] at h; subst h; simpa using aG.nil
  | y :: ys, vs, k + 1, h => by
    rw [aG] at h
    obtain ⟨v, r, rfl, q, t⟩ := h
    rw [List.take_succ_cons, List.take_succ_cons]
    exact .cons q (aG.take k t)
theorem aG.drop : ∀ {es : List EV} {vs : List V} (k : Nat), aG K m n H es vs → aG K m n H (es.drop k) (vs.drop k)
  | _, _, 0, h => by simpa using h
  | [], vs, k + 1, h => by rw [aG] at h; subst h; simpa using aG.nil
  | y :: ys, vs, k + 1, h => by
    rw [aG] at h
    obtain ⟨v, r, rfl, q, t⟩ := h
    rw [List.drop_succ_cons, List.drop_succ_cons]
    exact aG.drop k t
theorem aG.set {x : EV} {v : V} (a : az K m n H x v) : ∀ {es : List EV} {vs : List V} (k : Nat), aG K m n H es vs → aG K m n H (es.set k x) (vs.set k v)
  | [], vs, k, h => by rw [aG] at h; subst h; simpa using aG.nil
  | y :: ys, vs, 0, h => by
    rw [aG] at h
    obtain ⟨w, r, rfl, q, t⟩ := h
    exact .cons a t
  | y :: ys, vs, k + 1, h => by
    rw [aG] at h
    obtain ⟨w, r, rfl, q, t⟩ := h
    exact .cons q (aG.set a k t)
theorem sqT_upd {a p : Addr} {xs : List V} {o : HO} (h : SqT K H a xs) (hp : ∀ u, H p = some u → NoTup u) : SqT K (upd H p o) a xs := by
  rcases h with h | h
  · refine .inl ?_
    have ne : a ≠ p := by
      rintro rfl
      rcases h with h | ⟨q, h⟩
      · exact (hp _ h).1 _ rfl
      · exact (hp _ h).2.1 _ _ rfl
    rcases h with h | ⟨q, h⟩
    · exact .inl (by rw [upd_ne ne]; exact h)
    · exact .inr ⟨q, by rw [upd_ne ne]; exact h⟩
  · exact .inr h
theorem upd_xd {p a : Addr} {o : HO} (hp : ∀ u, H p = some u → NoTup u) : ∀ b, (H b = some (.xd []) → upd H p o b = some (.xd [])) ∧ (H b = some (.own a) → upd H p o b = some (.own a)) := fun b => by
  refine ⟨fun e => ?_, fun e => ?_⟩
  · have ne : b ≠ p := by
      rintro rfl
      exact (hp _ e).2.2.2.1 _ rfl
    rw [upd_ne ne]; exact e
  · have ne : b ≠ p := by
      rintro rfl
      exact (hp _ e).2.2.2.2 _ rfl
    rw [upd_ne ne]; exact e
theorem free_no {p : Addr} (hp : H p = none) : ∀ u, H p = some u → NoTup u := fun u e => by rw [hp] at e; cases e
theorem tk_upd {a p : Addr} {xs : List V} {o : HO} (h : H a = some (.tup xs)) (hp : ∀ u, H p = some u → NoTup u) : upd H p o a = some (.tup xs) := by
  have ne : a ≠ p := by
    rintro rfl
    exact (hp _ h).1 _ rfl
  rw [upd_ne ne]; exact h
theorem Ex.tup1 {p : Addr} {o : HO} (hp : H p = none) : Ex K m n H m n (upd H p o) :=
  ⟨Nat.le_refl _, fun _ _ => rfl, fun a xs h => sqT_upd h (free_no hp), fun a xs h => tk_upd h (free_no hp)⟩
theorem dD.tup {h : EH} {p : Addr} {o : HO} (R : dD K m h H) (hp : H p = none) : dD K m h (upd H p o) := by
  refine ⟨fun r e hr => ?_, R.inj⟩
  have q := R.obj r e hr
  refine q.off (Ex.tup1 hp) (free_no hp) (fun hf => ?_) (fun z => upd_ne z) (upd_xd (free_no hp))
  obtain ⟨u, hu, _⟩ := q.there hf
  exact ne_of_none hu hp
def mput (m : Nat → Addr) (n : Nat) (p : Addr) : Nat → Addr := fun r => if r = n then p else m r
theorem mput_lt {p : Addr} {r : Nat} (h : r < n) : mput m n p r = m r := if_neg (Nat.ne_of_lt h)
theorem lU {p : Addr} : mput m n p n = p := if_pos rfl
theorem Ex.new {h : EH} {p : Addr} {o : HO} {e : EO} (hp : H p = none) : Ex K m h.length H (mput m h.length p) (h ++ [e]).length (upd H p o) :=
  ⟨by simp, fun r hr => mput_lt hr, fun a xs q => sqT_upd q (free_no hp), fun a xs q => tk_upd q (free_no hp)⟩
theorem app_cases {h : EH} {e u : EO} {r : Nat} (hr : (h ++ [e])[r]? = some u) : (r < h.length ∧ h[r]? = some u) ∨ (r = h.length ∧ u = e) := by
  by_cases q : r < h.length
  · rw [List.getElem?_append_left q] at hr
    exact .inl ⟨q, hr⟩
  · rw [List.getElem?_append_right (by omega)] at hr
    have : r - h.length = 0 := by
      have := (List.getElem?_eq_some_iff.mp hr).1
      simp at this; omega
    rw [this] at hr
    simp at hr
    exact .inr ⟨by omega, hr.symm⟩
theorem dD.new {h : EH} {p : Addr} {o : HO} {e : EO} (R : dD K m h H) (hp : H p = none)
    (new : RelO K (mput m h.length p) (h ++ [e]).length (upd H p o) e p) : dD K (mput m h.length p) (h ++ [e]) (upd H p o) := by
  have there : ∀ r u, h[r]? = some u → isF u = false → m r ≠ p := fun r u hr hf => by
    obtain ⟨w, hw, _⟩ := (R.obj r u hr).there hf
    exact ne_of_none hw hp
  refine ⟨fun r u hr => ?_, fun r q u v hr hq fu fv z => ?_⟩
  · rcases app_cases hr with ⟨q, hr⟩ | ⟨rfl, rfl⟩
    · rw [mput_lt q]
      exact (R.obj r u hr).off (Ex.new hp) (free_no hp) (there r u hr) (fun z => upd_ne z) (upd_xd (free_no hp))
    · rw [lU]; exact new
  · rcases app_cases hr with ⟨a, hr'⟩ | ⟨a, a'⟩ <;> rcases app_cases hq with ⟨b, hq'⟩ | ⟨b, b'⟩
    · rw [mput_lt a, mput_lt b] at z; exact R.inj r q u v hr' hq' fu fv z
    · rw [b, mput_lt a, lU] at z; exact absurd z (there r u hr' fu)
    · rw [a, mput_lt b, lU] at z; exact absurd z.symm (there q v hq' fv)
    · rw [a, b]
theorem dD.tops {h : EH} {r : Nat} {e : EO} (R : dD K m h H) (hr : h[r]? = some e) (hf : isF e = false := by rfl) : ∀ u, H (m r) = some u → NoTup u := fun u z => by
  obtain ⟨w, hw, nt⟩ := (R.obj r e hr).there hf
  rw [hw] at z; cases z; exact nt
theorem Ex.write {h : EH} {r : Nat} {o : HO} {e e' : EO} (R : dD K m h H) (hr : h[r]? = some e) (hf : isF e = false := by rfl) : Ex K m h.length H m (h.set r e').length (upd H (m r) o) :=
  ⟨by simp, fun _ _ => rfl, fun a xs q => sqT_upd q (R.tops hr hf), fun a xs q => tk_upd q (R.tops hr hf)⟩
theorem dD.write {h : EH} {r : Nat} {o : HO} {e e' : EO} (R : dD K m h H) (hr : h[r]? = some e)
    (new : RelO K m (h.set r e').length (upd H (m r) o) e' (m r)) (hf : isF e = false := by rfl) : dD K m (h.set r e') (upd H (m r) o) := by
  have hlt := (List.getElem?_eq_some_iff.mp hr).1
  have set_cases : ∀ {q : Nat} {u : EO}, (h.set r e')[q]? = some u → (q = r ∧ u = e') ∨ (q ≠ r ∧ h[q]? = some u) := fun {q u} hq => by
    by_cases z : r = q
    · subst z
      rw [List.getElem?_set_self hlt] at hq
      cases hq
      exact .inl ⟨rfl, rfl⟩
    · rw [List.getElem?_set_ne z] at hq
      exact .inr ⟨fun y => z y.symm, hq⟩
  refine ⟨fun q u hq => ?_, fun q p u v hq hp fu fv z => ?_⟩
  · rcases set_cases hq with ⟨rfl, rfl⟩ | ⟨z, hq⟩
    · exact new
    · exact (R.obj q u hq).off (Ex.write R hr hf) (R.tops hr hf) (fun fu y => z (R.inj q r u e hq hr fu hf y)) (fun y => upd_ne y) (upd_xd (R.tops hr hf))
  · rcases set_cases hq with ⟨a, a'⟩ | ⟨a, hq'⟩ <;> rcases set_cases hp with ⟨b, b'⟩ | ⟨b, hp'⟩
    · rw [a, b]
    · rw [a] at z; exact absurd (R.inj p r v e hp' hr fv hf z.symm) b
    · rw [b] at z; exact absurd (R.inj q r u e hq' hr fu hf z) a
    · exact R.inj q p u v hq' hp' fu fv z
def Kon (K : PySem.W.Frag) (m : Nat → Addr) (n : Nat) (H : Hp) (P : EK) (Q : VK) : Prop :=
  ∀ v h', P v h' → ∀ (m' : Nat → Addr) (H' : Hp) (x : V), Ex K m n H m' h'.length H' → dD K m' h' H' → az K m' h'.length H' v x → Q x H'
theorem Kon.ex {P : EK} {Q : VK} (E : Ex K m n H m' n' H') (k : Kon K m n H P Q) : Kon K m' n' H' P Q := fun v h' p m2 H2 x E2 R r => k v h' p m2 H2 x (E.trans E2) R r
structure At (K : PySem.W.Frag) (env : En) (h : EH) (m : Nat → Addr) (σ : L2.St) (H : Hp) : Prop where
  hp : dD K m h H
  nm : RelN K m h.length H env σ
theorem At.ex {env : En} {h h' : EH} {σ : L2.St} (a : At K env h m σ H) (E : Ex K m h.length H m' h'.length H') (R : dD K m' h' H') : At K env h' m' σ H' := ⟨R, a.nm.ex E⟩
def up (K : PySem.W.Frag) (t : LT) : TE := fun σ H Q => ∃ m env h P, At K env h m σ H ∧ t env h P ∧ Kon K m h.length H P Q
structure LE (X : Cx) (e : Expr) (t : LT) : Prop where
  pe : PE X e (up X.K t)
abbrev LTt := En → EH → (Bool → EH → Prop) → Prop
def upT (K : PySem.W.Frag) (t : LTt) : TT := fun σ H Q => ∃ m env h P, At K env h m σ H ∧ t env h P ∧
  ∀ b h', P b h' → ∀ (m' : Nat → Addr) (H' : Hp), Ex K m h.length H m' h'.length H' → dD K m' h' H' → Q b H'
structure LTe (X : Cx) (e : Expr) (t : LTt) : Prop where
  pt : PT X e (upT X.K t)
structure LWe (X : Cx) (e : Expr) (t : LTt) : Prop where
  pw : PW X e (upT X.K t)
abbrev LA := En → EH → (List EV → EH → Prop) → Prop
def KonA (K : PySem.W.Frag) (m : Nat → Addr) (n : Nat) (H : Hp) (P : List EV → EH → Prop) (Q : List V → Hp → Prop) : Prop :=
  ∀ vs h', P vs h' → ∀ (m' : Nat → Addr) (H' : Hp) (xs : List V), Ex K m n H m' h'.length H' → dD K m' h' H' → aG K m' h'.length H' vs xs → Q xs H'
def upA (K : PySem.W.Frag) (t : LA) : TA := fun σ H Q => ∃ m env h P, At K env h m σ H ∧ t env h P ∧ KonA K m h.length H P Q
structure LAs (X : Cx) (es : List Expr) (t : LA) : Prop where
  pa : PA X es (upA X.K t)
structure LEnds where
  nx : En → EH → Prop
  rt : EK
  bk : En → EH → Prop := fun _ _ => False
  ct : En → EH → Prop := fun _ _ => False
abbrev LS := LEnds → En → EH → Prop
def KonS (K : PySem.W.Frag) (m : Nat → Addr) (n : Nat) (H : Hp) (P : En → EH → Prop) (Q : L2.St → Hp → Prop) : Prop :=
  ∀ env' h', P env' h' → ∀ (m' : Nat → Addr) (H' : Hp) (σ' : L2.St), Ex K m n H m' h'.length H' → At K env' h' m' σ' H' → Q σ' H'
theorem KonS.ex {P : En → EH → Prop} {Q : L2.St → Hp → Prop} (E : Ex K m n H m' n' H') (k : KonS K m n H P Q) : KonS K m' n' H' P Q := fun v h' p m2 H2 x E2 R => k v h' p m2 H2 x (E.trans E2) R
structure KonE (K : PySem.W.Frag) (m : Nat → Addr) (n : Nat) (H : Hp) (P : LEnds) (Q : Ends) : Prop where
  nx : KonS K m n H P.nx Q.nx
  rt : Kon K m n H P.rt Q.rt
  bk : KonS K m n H P.bk Q.bk
  ct : KonS K m n H P.ct Q.ct
theorem KonE.ex {P : LEnds} {Q : Ends} (E : Ex K m n H m' n' H') (k : KonE K m n H P Q) : KonE K m' n' H' P Q := ⟨k.nx.ex E, k.rt.ex E, k.bk.ex E, k.ct.ex E⟩
def upS (K : PySem.W.Frag) (t : LS) : TS := fun D σ H => ∃ m env h P, At K env h m σ H ∧ t P env h ∧ KonE K m h.length H P D
structure LSt (X : Cx) (st : Stmt) (t : LS) : Prop where
  ps : PS X st (upS X.K t)
structure LSs (X : Cx) (st : List Stmt) (t : LS) : Prop where
  pss : PSs X st (upS X.K t)
theorem PE.imp {X : Cx} {e : Expr} {t t' : TE} (h : PE X e t) (i : ∀ σ H Q, t' σ H Q → t σ H Q) : PE X e t' := ⟨fun pins s σ H Q I q => h.run pins s σ H Q I (i σ H Q q)⟩
theorem PT.imp {X : Cx} {e : Expr} {t t' : TT} (h : PT X e t) (i : ∀ σ H Q, t' σ H Q → t σ H Q) : PT X e t' := ⟨fun pins s σ H Q I q => h.run pins s σ H Q I (i σ H Q q)⟩
theorem PW.imp {X : Cx} {e : Expr} {t t' : TT} (h : PW X e t) (i : ∀ σ H Q, t' σ H Q → t σ H Q) : PW X e t' := ⟨fun wh pins s σ H Q I q => h.run wh pins s σ H Q I (i σ H Q q)⟩
theorem PA.imp {X : Cx} {e : List Expr} {t t' : TA} (h : PA X e t) (i : ∀ σ H Q, t' σ H Q → t σ H Q) : PA X e t' := ⟨fun p pins s σ H Q I q => h.run p pins s σ H Q I (i σ H Q q)⟩
theorem PS.imp {X : Cx} {e : Stmt} {t t' : TS} (h : PS X e t) (i : ∀ D σ H, t' D σ H → t D σ H) : PS X e t' := ⟨fun pins s σ H D I q => h.run pins s σ H D I (i D σ H q)⟩
theorem PSs.imp {X : Cx} {e : List Stmt} {t t' : TS} (h : PSs X e t) (i : ∀ D σ H, t' D σ H → t D σ H) : PSs X e t' := ⟨fun pins s σ H D I q => h.run pins s σ H D I (i D σ H q)⟩
theorem PI.imp {X : Cx} {tg e : Expr} {t t' : TI} (h : PI X tg e t) (i : ∀ σ H Q, t' σ H Q → t σ H Q) : PI X tg e t' := ⟨fun pins s σ H Q I q => h.run pins s σ H Q I (i σ H Q q)⟩
def ao (i : Nat) : LT := fun env h P => match env[i]? with
  | some (some v) => P v h
  | _ => False
def lC (v : EV) : LT := fun _ h P => P v h
section
variable {X : Cx}
theorem ak (i : Nat) {x : Str} {pos : Pos} (hN : X.N[i]? = some x := by rfl) (hv : Vis X.env.scope x := by first | exact Or.inl rfl | exact Or.inr (Or.inl rfl) | exact Or.inr (Or.inr rfl))
    (hd : (x == ("__debug__" : Str)) = false := by decide) (hcd : (x == ("__classdict__" : Str)) = false := by decide) : LE X (.Name x pos) (ao i) :=
  ⟨PE.imp (pe_var hN hv hd hcd) fun σ H Q ⟨m, env, h, P, a, t, k⟩ => by
    unfold ao at t
    split at t
    · rename_i v e
      obtain ⟨x, ex, rx⟩ := a.nm.2 i v e
      exact ⟨x, ex, k v h t m H x .refl a.hp rx⟩
    · exact t.elim⟩
theorem le_c {e : Expr} {v : V} (x : EV) (h : PE X e (tC v)) (r : ∀ m n H, az X.K m n H x v) : LE X e (lC x) :=
  ⟨PE.imp h fun σ H Q ⟨m, env, h, P, a, t, k⟩ => k x h t m H v .refl a.hp (r _ _ _)⟩
theorem le_int {i j pos} : LE X (.Constant (.int i) j pos) (lC (.int i)) := le_c _ pe_int fun _ _ _ => by rw [az]
theorem le_bl {i j pos} : LE X (.Constant (.bool i) j pos) (lC (.bl i)) := le_c _ pe_bl fun _ _ _ => by rw [az]
theorem le_non {j pos} : LE X (.Constant .none j pos) (lC .non) := le_c _ pe_non fun _ _ _ => by rw [az]
theorem le_str (l : List Nat) {x j pos} (h : x = S l := by decide +kernel) : LE X (.Constant (.str x) j pos) (lC (.str l)) := le_c _ pe_str fun _ _ _ => by rw [az, h]
theorem le_gint (i : Int) {x : Str} {pos : Pos} (hg : Gl X x) (hm : ∃ t, X.mg x = some (.int i t)) (hd : (x == ("__debug__" : Str)) = false := by decide) : LE X (.Name x pos) (lC (.int i)) := by
  obtain ⟨t, e⟩ := hm
  exact le_c _ (pe_glob (v := .int i) hg e ⟨t, rfl⟩ hd) fun _ _ _ => by rw [az]
theorem le_gstr (l : List Nat) {x : Str} {pos : Pos} (hg : Gl X x) (hm : ∃ t, X.mg x = some (.str (S l) t)) (hd : (x == ("__debug__" : Str)) = false := by decide) : LE X (.Name x pos) (lC (.str l)) := by
  obtain ⟨t, e⟩ := hm
  exact le_c _ (pe_glob (v := .str (S l)) hg e ⟨t, rfl⟩ hd) fun _ _ _ => by rw [az]
end
end
end Y
namespace Y
open PySem PySem.Spec PyProof.Rows L2
mutual
inductive Dat (h : EH) : Nat → EV → PyData → Prop
  | non {n : Nat} : Dat h n .non .none
  | bl {n : Nat} (b : Bool) : Dat h n (.bl b) (.bool b)
  | int {n : Nat} (i : Int) : Dat h n (.int i) (.int i)
  | str {n : Nat} (s : List Nat) : Dat h n (.str s) (.str (S s))
  | tup {n : Nat} {xs : List EV} {ds : List PyData} : oH h n xs ds → Dat h (n + 1) (.tup xs) (.tuple ds)
  | ktup {n : Nat} {xs : List EV} {ds : List PyData} : oH h n xs ds → Dat h (n + 1) (.ktup xs) (.tuple ds)
  | lst {n : Nat} {r : Nat} {xs : List EV} {ds : List PyData} : h[r]? = some (.lst xs) → oH h n xs ds → Dat h (n + 1) (.ref r) (.list ds)
inductive oH (h : EH) : Nat → List EV → List PyData → Prop
  | nil {n : Nat} : oH h n [] []
  | cons {n : Nat} {x : EV} {xs : List EV} {d : PyData} {ds : List PyData} : Dat h n x d → oH h n xs ds → oH h n (x :: xs) (d :: ds)
end
section
variable {K : PySem.W.Frag} {m : Nat → Addr} {H : Hp} {h : EH}
mutual
theorem Dat.dp (R : dD K m h H) : ∀ (d : PyData) (n : Nat) (v : EV) (x : V), Dat h n v d → az K m h.length H v x → Dp K H x d
  | .none, _, _, _, a, r => by cases a; rw [az] at r; subst r; exact .non
  | .bool b, _, _, _, a, r => by cases a; rw [az] at r; subst r; exact .bl b
  | .int b, _, _, _, a, r => by cases a; rw [az] at r; subst r; exact .int b
  | .str b, _, _, _, a, r => by cases a; rw [az] at r; subst r; exact .str _
  | .tuple ds, _, _, _, a, r => by
    cases a with
    | tup as =>
      rw [az] at r
      obtain ⟨p, vs, e, q, t⟩ := r
      subst e
      exact .tup (SqT.of q) (oH.dp R ds _ _ _ as t)
    | ktup as =>
      rw [az] at r
      obtain ⟨p, vs, e, q, t⟩ := r
      subst e
      exact .tup q (oH.dp R ds _ _ _ as t)
  | .list ds, _, _, _, a, r => by
    cases a with
    | lst hr as =>
      rw [az] at r
      obtain ⟨hl, e⟩ := r
      subst e
      obtain ⟨vs, hv, t⟩ := R.obj _ _ hr
      exact .lst (SqL.of hv) (oH.dp R ds _ _ _ as t)
  | .dict _, _, _, _, a, _ => by cases a
theorem oH.dp (R : dD K m h H) : ∀ (ds : List PyData) (n : Nat) (vs : List EV) (xs : List V), oH h n vs ds → aG K m h.length H vs xs → DpAll K H xs ds
  | [], _, _, _, a, r => by cases a; rw [aG] at r; subst r; exact .nil
  | d :: ds, _, _, _, a, r => by
    cases a with
    | cons a1 a2 =>
      rw [aG] at r
      obtain ⟨v, l, e, r1, r2⟩ := r
      subst e
      exact .cons (Dat.dp R d _ _ _ a1 r1) (oH.dp R ds _ _ _ a2 r2)
end
mutual
theorem Dat.dep : ∀ (d : PyData) (n : Nat) (v : EV), Dat h n v d → d.depth ≤ n ∧ d.plain = true
  | .none, _, _, a => by simp [PyData.depth, PyData.plain]
  | .bool b, _, _, a => by simp [PyData.depth, PyData.plain]
  | .int b, _, _, a => by simp [PyData.depth, PyData.plain]
  | .str b, _, _, a => by simp [PyData.depth, PyData.plain]
  | .tuple ds, _, _, a => by
    cases a with
    | tup as =>
      have := oH.dep ds _ _ as
      simp only [PyData.depth, PyData.plain]
      exact ⟨by omega, this.2⟩
    | ktup as =>
      have := oH.dep ds _ _ as
      simp only [PyData.depth, PyData.plain]
      exact ⟨by omega, this.2⟩
  | .list ds, _, _, a => by
    cases a with
    | lst hr as =>
      have := oH.dep ds _ _ as
      simp only [PyData.depth, PyData.plain]
      exact ⟨by omega, this.2⟩
  | .dict _, _, _, a => by cases a
theorem oH.dep : ∀ (ds : List PyData) (n : Nat) (vs : List EV), oH h n vs ds → PyData.depthAll ds ≤ n ∧ PyData.plainAll ds = true
  | [], _, _, a => by simp [PyData.depthAll, PyData.plainAll]
  | d :: ds, _, _, a => by
    cases a with
    | cons a1 a2 =>
      have h1 := Dat.dep d _ _ a1
      have h2 := oH.dep ds _ _ a2
      simp only [PyData.depthAll, PyData.plainAll, h1.2, h2.2]
      exact ⟨by omega, rfl⟩
end
end
abbrev LO := EV → EV → EH → EK → Prop
def LOp (K : PySem.W.Frag) (r : R2) (o : LO) : Prop :=
  ∀ (m : Nat → Addr) (h : EH) (H : Hp) (v w : EV) (x y : V) (P : EK) (Q : VK), dD K m h H → az K m h.length H v x → az K m h.length H w y → o v w h P → Kon K m h.length H P Q → r x y H Q
def pW (X : Cx) (f : Value → Value → Sem Value) (o : LO) : Prop := ∃ r, OpR X f r ∧ LOp X.K r o
def lOp (o : LO) (ta tb : LT) : LT := fun env h P => ta env h fun x h1 => tb env h1 fun y h2 => o x y h2 P
def lB (t : LT) : LTt := fun env h P => t env h fun v h1 => match v with
  | .bl b => P b h1
  | _ => False
theorem Kon.same {K : PySem.W.Frag} {m : Nat → Addr} {H : Hp} {h : EH} {P : EK} {Q : VK} (k : Kon K m h.length H P Q) (R : dD K m h H) {v : EV} {x : V} (p : P v h) (r : az K m h.length H v x) : Q x H := k v h p m H x .refl R r
theorem Kon.tup {K : PySem.W.Frag} {m : Nat → Addr} {H : Hp} {h : EH} {P : EK} {Q : VK} (k : Kon K m h.length H P Q) (R : dD K m h H) {vs : List EV} {xs : List V} (p : P (.tup vs) h) (r : aG K m h.length H vs xs) {a : Addr} (ha : H a = none) : Q (.ref a) (upd H a (.tup xs)) :=
  k _ h p m _ _ (Ex.tup1 ha) (R.tup ha) (by rw [az]; exact ⟨a, xs, rfl, upd_same, aG.ex (Ex.tup1 ha) _ _ r⟩)
theorem Kon.lst {K : PySem.W.Frag} {m : Nat → Addr} {H : Hp} {h : EH} {P : EK} {Q : VK} (k : Kon K m h.length H P Q) (R : dD K m h H) {vs : List EV} {xs : List V} (p : P (.ref h.length) (h ++ [.lst vs])) (r : aG K m h.length H vs xs) {a : Addr} (ha : H a = none) : Q (.ref a) (upd H a (.lst xs)) := by
  have E : Ex K m h.length H (mput m h.length a) (h ++ [EO.lst vs]).length (upd H a (.lst xs)) := Ex.new ha
  refine k _ _ p _ _ _ E (R.new ha ⟨xs, upd_same, aG.ex E _ _ r⟩) ?_
  rw [az]
  exact ⟨by simp, by rw [lU]⟩
section
variable {X : Cx} {a b : Expr} {ta tb : LT} {pos : Pos} {o : LO}
theorem up_bin {K : PySem.W.Frag} {r : R2} (s : LOp K r o) (σ : L2.St) (H : Hp) (Q : VK) (q : up K (lOp o ta tb) σ H Q) : tOp r (up K ta) (up K tb) σ H Q := by
  obtain ⟨m, env, h, P, at_, t, k⟩ := q
  refine ⟨m, env, h, _, at_, t, fun x h1 p1 m1 H1 u E1 R1 r1 => ⟨m1, env, h1, _, at_.ex E1 R1, p1, fun y h2 p2 m2 H2 w E2 R2 r2 => ?_⟩⟩
  exact s _ _ _ _ _ _ _ P Q R2 (az.ex E2 _ _ r1) r2 p2 (k.ex (E1.trans E2))
theorem aQ {op : Operator} (ho : pW X (binaryOp op) o) (ha : LE X a ta) (hb : LE X b tb) : LE X (.BinOp a op b pos) (lOp o ta tb) := by
  obtain ⟨r, hr, s⟩ := ho
  exact ⟨PE.imp (pe_op hr ha.pe hb.pe) (up_bin s)⟩
theorem mX {op : CmpOp} (ho : pW X (compareOp op) o) (ha : LE X a ta) (hb : LE X b tb) (hm : behindInMarks op b = false := by first | exact nomark _ | with_unfolding_all rfl) : LE X (.Compare a [op] [b] pos) (lOp o ta tb) := by
  obtain ⟨r, hr, s⟩ := ho
  exact ⟨PE.imp (pe_cmpR hr ha.pe hb.pe hm) (up_bin s)⟩
theorem up_test {K : PySem.W.Frag} {t : LT} {tt : TE} (i : ∀ σ H Q, up K t σ H Q → tt σ H Q) (σ : L2.St) (H : Hp) (Q : Bool → Hp → Prop) (q : upT K (lB t) σ H Q) : tTest tt σ H Q := by
  obtain ⟨m, env, h, P, at_, t1, k⟩ := q
  refine i σ H _ ⟨m, env, h, _, at_, t1, fun v h1 p1 m1 H1 x E1 R1 r1 => ?_⟩
  cases v with
  | bl b =>
    rw [az] at r1
    exact ⟨b, r1, k b h1 p1 m1 H1 E1 R1⟩
  | _ => exact p1.elim
theorem cP {op : CmpOp} (ho : pW X (compareOp op) o) (ha : LE X a ta) (hb : LE X b tb) (hm : behindInMarks op b = false := by first | exact nomark _ | with_unfolding_all rfl) : LTe X (.Compare a [op] [b] pos) (lB (lOp o ta tb)) := by
  obtain ⟨r, hr, s⟩ := ho
  exact ⟨PT.imp (pt_cmpR hr ha.pe hb.pe hm) (up_test (up_bin s))⟩
def bA (o o' : LO) (ta tb tc : LT) : LT := fun env h P => ta env h fun x h1 => tb env h1 fun y h2 => o x y h2 fun z h3 => match z with
  | .bl k => if k = true then tc env h3 fun w h4 => o' y w h4 P else P (.bl false) h3
  | _ => False
theorem up_chain {K : PySem.W.Frag} {r r' : R2} {o o' : LO} {tc : LT} (s : LOp K r o) (s' : LOp K r' o') (σ : L2.St) (H : Hp) (Q : VK) (q : up K (bA o o' ta tb tc) σ H Q) : tChain r r' (up K ta) (up K tb) (up K tc) σ H Q := by
  obtain ⟨m, env, h, P, at_, t, k⟩ := q
  refine ⟨m, env, h, _, at_, t, fun x h1 p1 m1 H1 u E1 R1 r1 => ⟨m1, env, h1, _, at_.ex E1 R1, p1, fun y h2 p2 m2 H2 w E2 R2 r2 => ?_⟩⟩
  refine s _ _ _ _ _ _ _ _ _ R2 (az.ex E2 _ _ r1) r2 p2 fun z h3 p3 m3 H3 zz E3 R3 r3 => ?_
  cases z with
  | bl c =>
    rw [az] at r3
    refine ⟨c, r3, ?_⟩
    cases c with
    | false => exact k _ _ p3 m3 H3 _ ((E1.trans E2).trans E3) R3 (by rw [az])
    | true => exact ⟨m3, env, h3, _, (at_.ex (E1.trans E2) R2).ex E3 R3, p3, fun w' h4 p4 m4 H4 ww E4 R4 r4 => s' _ _ _ _ _ _ _ P Q R4 (az.ex (E3.trans E4) _ _ r2) r4 p4 (k.ex (((E1.trans E2).trans E3).trans E4))⟩
  | _ => exact p3.elim
theorem le_chain {c : Expr} {tc : LT} {op op' : CmpOp} {o o' : LO} (ho : pW X (compareOp op) o) (ho' : pW X (compareOp op') o') (ha : LE X a ta) (hb : LE X b tb) (hc : LE X c tc)
    (hm : lastMarks [op, op'] [b, c] = false := by with_unfolding_all rfl) : LE X (.Compare a [op, op'] [b, c] pos) (bA o o' ta tb tc) := by
  obtain ⟨r, hr, s⟩ := ho
  obtain ⟨r', hr', s'⟩ := ho'
  exact ⟨PE.imp (pe_chain hr hr' ha.pe hb.pe hc.pe hm) (up_chain s s')⟩
end
def bJ : LO := fun v w h P => match v, w with
  | .int i, .int j => P (.int (i + j)) h
  | .int i, .bl b => P (.int (i + b2i b)) h
  | .str a, .str b => a.length + b.length ≤ sizeLine ∧ P (.str (a ++ b)) h
  | .tup a, .tup b => a.length + b.length ≤ sizeLine ∧ P (.tup (a ++ b)) h
  | .ref l, .ref r => match h[l]?, h[r]? with
    | some (.lst a), some (.lst b) => a.length + b.length ≤ sizeLine ∧ P (.ref h.length) (h ++ [.lst (a ++ b)])
    | _, _ => False
  | _, _ => False
theorem S_len (a : List Nat) : (S a).length = a.length := by
  show (S a).cps.size = _
  simp
theorem S_app (a b : List Nat) : S a ++ S b = S (a ++ b) := by
  show (⟨(a.toArray ++ b.toArray)⟩ : Str) = _
  simp
theorem bM {X : Cx} : pW X (binaryOp .Add) bJ := by
  refine ⟨_, OpR.or op_add (OpR.or op_add_ib (OpR.or op_add_str (OpR.or op_catA op_cat))), ?_⟩
  intro m h H v w x y P Q R rx ry q k
  unfold bJ at q
  split at q
  · rw [az] at rx ry
    exact .inl ⟨_, _, rx, ry, k.same R q (by rw [az])⟩
  · rw [az] at rx
    rw [az] at ry
    exact .inr (.inl ⟨_, _, rx, ry, k.same R q (by rw [az])⟩)
  · rw [az] at rx ry
    exact .inr (.inr (.inl ⟨_, _, rx, ry, by rw [S_len, S_len]; exact q.1, by rw [S_app]; exact k.same R q.2 (by rw [az])⟩))
  · rename_i a b
    rw [az] at rx ry
    obtain ⟨p, xs, rfl, hx, r1⟩ := rx
    obtain ⟨p', ys, rfl, hy, r2⟩ := ry
    refine .inr (.inr (.inr (.inl ⟨p, p', xs, ys, rfl, rfl, SqT.of hx, SqT.of hy, by rw [← r1.length, ← r2.length]; exact q.1, fun e => ?_, fun _ e => ?_, fun _ _ z hz => ?_⟩)))
    · subst e
      have : a = [] := by cases a with
        | nil => rfl
        | cons _ _ => have := r1.length; simp at this
      subst this
      exact k.same R q.2 (by rw [az]; exact ⟨p', ys, rfl, hy, r2⟩)
    · subst e
      have : b = [] := by cases b with
        | nil => rfl
        | cons _ _ => have := r2.length; simp at this
      subst this
      refine k.same R q.2 ?_
      rw [List.append_nil, az]
      exact ⟨p, xs, rfl, hx, r1⟩
    · exact k.tup R q.2 (r1.app r2) hz
  · rw [az] at rx ry
    obtain ⟨_, rfl⟩ := rx
    obtain ⟨_, rfl⟩ := ry
    split at q
    · rename_i e1 e2
      obtain ⟨xs, a1, r1⟩ := R.obj _ _ e1
      obtain ⟨ys, a2, r2⟩ := R.obj _ _ e2
      refine .inr (.inr (.inr (.inr ⟨_, _, xs, ys, rfl, rfl, a1, a2, by rw [← r1.length, ← r2.length]; exact q.1, fun z hz => ?_⟩)))
      exact k.lst R q.2 (r1.app r2) hz
    · exact q.elim
  · exact q.elim
def dG (C : Int → Int → Prop) (f : Int → Int → Int) : LO := fun v w h P => match v, w with
  | .int i, .int j => C i j ∧ P (.int (f i j)) h
  | _, _ => False
def cZ (f : Int → Int → EV) : LO := fun v w h P => match v, w with
  | .int i, .int j => P (f i j) h
  | _, _ => False
theorem lo_int {X : Cx} {op : Operator} {C : Int → Int → Prop} {f : Int → Int → Int} (hr : OpR X (binaryOp op) (rI C fun i j => .int (f i j))) : pW X (binaryOp op) (dG C f) := by
  refine ⟨_, hr, ?_⟩
  intro m h H v w x y P Q R rx ry q k
  unfold dG at q
  split at q
  · rw [az] at rx ry
    exact ⟨_, _, rx, ry, q.1, k.same R q.2 (by rw [az])⟩
  · exact q.elim
theorem lo_intP {X : Cx} {fn : Value → Value → Sem Value} {f : Int → Int → EV} {g : Int → Int → V} (hr : OpR X fn (rI0 g)) (e : ∀ K m n H i j, az K m n H (f i j) (g i j)) : pW X fn (cZ f) := by
  refine ⟨_, hr, ?_⟩
  intro m h H v w x y P Q R rx ry q k
  unfold cZ at q
  split at q
  · rw [az] at rx ry
    exact ⟨_, _, rx, ry, k.same R q (e _ _ _ _ _ _)⟩
  · exact q.elim
abbrev dY : LO := cZ fun i j => .int (i - j)
abbrev fdivE : LO := dG CDivW fun i j => i / j
abbrev modE : LO := dG (fun _ j => 0 < j) fun i j => i % j
abbrev powE : LO := dG CPow fun i j => i ^ j.toNat
theorem eQ {X : Cx} : pW X (binaryOp .Sub) dY := lo_intP op_sub fun _ _ _ _ _ _ => by rw [az]
theorem lo_fdiv {X : Cx} : pW X (binaryOp .FloorDiv) fdivE := lo_int op_fdivW
theorem lo_mod {X : Cx} : pW X (binaryOp .Mod) modE := lo_int op_mod
theorem lo_pow {X : Cx} : pW X (binaryOp .Pow) powE := lo_int op_pow
abbrev ltE : LO := cZ fun i j => .bl (decide (i < j))
abbrev leE : LO := cZ fun i j => .bl (decide (i ≤ j))
abbrev gtE : LO := cZ fun i j => .bl (decide (j < i))
abbrev geE : LO := cZ fun i j => .bl (decide (j ≤ i))
theorem lo_lt {X : Cx} : pW X (compareOp .Lt) ltE := lo_intP op_lt fun _ _ _ _ _ _ => by rw [az]
theorem lo_le {X : Cx} : pW X (compareOp .LtE) leE := lo_intP op_le fun _ _ _ _ _ _ => by rw [az]
theorem lo_gt {X : Cx} : pW X (compareOp .Gt) gtE := lo_intP op_gt fun _ _ _ _ _ _ => by rw [az]
theorem lo_ge {X : Cx} : pW X (compareOp .GtE) geE := lo_intP op_ge fun _ _ _ _ _ _ => by rw [az]
def eqE (neg : Bool) : LO := fun v w h P => match v, w with
  | .int i, .int j => P (.bl (neg ^^ decide (i = j))) h
  | .str a, .str b => P (.bl (neg ^^ decide (a = b))) h
  | .bl a, .bl b => P (.bl (neg ^^ decide (a = b))) h
  | v, w => ∃ d e, Dat h 60 v d ∧ Dat h 60 w e ∧ P (.bl (neg ^^ PyData.eqv d e)) h
theorem S_inj {a b : List Nat} : S a = S b ↔ a = b := by
  constructor
  · intro e
    have : a.toArray = b.toArray := congrArg Str.cps e
    simpa using this
  · rintro rfl; rfl
theorem beqD {α : Type} [BEq α] [LawfulBEq α] [DecidableEq α] (a b : α) : (a == b) = decide (a = b) := by
  rw [Bool.eq_iff_iff, beq_iff_eq, decide_eq_true_eq]
theorem eq_sim {K : PySem.W.Frag} {m : Nat → Addr} {h : EH} {H : Hp} {v w : EV} {x y : V} {P : EK} {Q : VK} {neg : Bool} (R : dD K m h H) (rx : az K m h.length H v x) (ry : az K m h.length H w y) (q : eqE neg v w h P) (k : Kon K m h.length H P Q) :
    ∃ d e, Dp K H x d ∧ Dp K H y e ∧ d.depth ≤ 60 ∧ d.plain = true ∧ e.plain = true ∧ Q (.bl (neg ^^ PyData.eqv d e)) H := by
  unfold eqE at q
  split at q
  · rename_i i j
    rw [az] at rx ry; subst rx ry
    refine ⟨_, _, .int i, .int j, by simp [PyData.depth], rfl, rfl, ?_⟩
    rw [show PyData.eqv (.int i) (.int j) = decide (i = j) by simp only [PyData.eqv]; exact beqD i j]
    exact k.same R q (by rw [az])
  · rename_i i j
    rw [az] at rx ry; subst rx ry
    refine ⟨_, _, .str _, .str _, by simp [PyData.depth], rfl, rfl, ?_⟩
    rw [show PyData.eqv (.str (S i)) (.str (S j)) = decide (i = j) by simp only [PyData.eqv]; rw [beqD]; exact decide_eq_decide.mpr S_inj]
    exact k.same R q (by rw [az])
  · rename_i i j
    rw [az] at rx ry; subst rx ry
    refine ⟨_, _, .bl _, .bl _, by simp [PyData.depth], rfl, rfl, ?_⟩
    rw [show PyData.eqv (.bool i) (.bool j) = decide (i = j) by simp only [PyData.eqv]; exact beqD i j]
    exact k.same R q (by rw [az])
  · obtain ⟨d, e, d1, e1, p⟩ := q
    exact ⟨d, e, Dat.dp R _ _ _ _ d1 rx, Dat.dp R _ _ _ _ e1 ry, (Dat.dep _ _ _ d1).1, (Dat.dep _ _ _ d1).2, (Dat.dep _ _ _ e1).2, k.same R p (by rw [az])⟩
def rEqP (neg : Bool) (K : PySem.W.Frag) : R2 := fun x y H Q => ∃ d e, Dp K H x d ∧ Dp K H y e ∧ d.depth ≤ 60 ∧ d.plain = true ∧ e.plain = true ∧ Q (.bl (neg ^^ PyData.eqv d e)) H
theorem oK {X : Cx} (hu : X.A.units + 64 < cLine) : pW X (compareOp .Eq) (eqE false) := by
  refine ⟨rEqP false X.K, ?_, fun m h H v w x y P Q R rx ry q k => eq_sim R rx ry q k⟩
  intro pins s σ H x y v u Q I rx ry h
  obtain ⟨d, e, hd, he, dd, pd, pe, q⟩ := h
  obtain ⟨as, r1⟩ := Dp.reads I d x v hd rx
  obtain ⟨bs, r2⟩ := Dp.reads I e y u he ry
  exact PySem.SeqAt.eq_plain r1 r2 pd pe (by omega) ⟨.bl _, H, I, rfl, by simpa using q⟩
theorem lo_ne {X : Cx} (hu : X.A.units + 64 < cLine) : pW X (compareOp .NotEq) (eqE true) := by
  refine ⟨rEqP true X.K, ?_, fun m h H v w x y P Q R rx ry q k => eq_sim R rx ry q k⟩
  intro pins s σ H x y v u Q I rx ry h
  obtain ⟨d, e, hd, he, dd, pd, pe, q⟩ := h
  obtain ⟨as, r1⟩ := Dp.reads I d x v hd rx
  obtain ⟨bs, r2⟩ := Dp.reads I e y u he ry
  exact PySem.SeqAt.ne_plain r1 r2 pd pe (by omega) ⟨.bl _, H, I, rfl, by simpa using q⟩
theorem op_isB {X : Cx} : OpR X (compareOp .Is) (fun x y H Q => ∃ a b, x = .bl a ∧ y = .bl b ∧ Q (.bl (decide (a = b))) H) := by
  intro pins s σ H x y v u Q I rx ry h
  obtain ⟨a, b, rfl, rfl, q⟩ := h
  cases (show v = Value.bool a from rx)
  cases (show u = Value.bool b from ry)
  refine is_bool (fin_bl I q ?_)
  cases a <;> cases b <;> rfl
theorem op_notB {X : Cx} : OpR X (compareOp .IsNot) (fun x y H Q => ∃ a b, x = .bl a ∧ y = .bl b ∧ Q (.bl (!decide (a = b))) H) := by
  intro pins s σ H x y v u Q I rx ry h
  obtain ⟨a, b, rfl, rfl, q⟩ := h
  cases (show v = Value.bool a from rx)
  cases (show u = Value.bool b from ry)
  refine isnot_bool (fin_bl I q ?_)
  cases a <;> cases b <;> rfl
def isN (neg : Bool) : LO := fun v w h P => match w with
  | .non => match v with
    | .non => P (.bl (!neg)) h
    | _ => P (.bl neg) h
  | .bl b => match v with
    | .bl a => P (.bl (neg ^^ decide (a = b))) h
    | _ => False
  | _ => False
theorem lo_isN {X : Cx} : pW X (compareOp .Is) (isN false) := by
  refine ⟨_, OpR.or op_isN op_isB, ?_⟩
  intro m h H v w x y P Q R rx ry q k
  unfold isN at q
  split at q
  · rw [az] at ry
    refine .inl ⟨ry, ?_⟩
    split at q
    · rw [az] at rx; subst rx
      exact k.same R q (by rw [az]; rfl)
    · have : x ≠ .non := by
        rintro rfl
        rename_i hv
        cases v <;> simp [az] at rx
        exact hv rfl
      rw [decide_eq_false this]
      exact k.same R q (by rw [az]; try rfl)
  · rename_i b
    rw [az] at ry
    split at q
    · rename_i a
      rw [az] at rx
      subst rx ry
      exact .inr ⟨a, b, rfl, rfl, k.same R q (by rw [az]; first | rfl | simp)⟩
    · exact q.elim
  · exact q.elim
theorem lo_notN {X : Cx} : pW X (compareOp .IsNot) (isN true) := by
  refine ⟨_, OpR.or op_notN op_notB, ?_⟩
  intro m h H v w x y P Q R rx ry q k
  unfold isN at q
  split at q
  · rw [az] at ry
    refine .inl ⟨ry, ?_⟩
    split at q
    · rw [az] at rx; subst rx
      exact k.same R q (by rw [az]; rfl)
    · have : x ≠ .non := by
        rintro rfl
        rename_i hv
        cases v <;> simp [az] at rx
        exact hv rfl
      rw [decide_eq_false this]
      exact k.same R q (by rw [az]; try rfl)
  · rename_i b
    rw [az] at ry
    split at q
    · rename_i a
      rw [az] at rx
      subst rx ry
      exact .inr ⟨a, b, rfl, rfl, k.same R q (by rw [az]; first | rfl | simp)⟩
    · exact q.elim
  · exact q.elim
end Y
namespace Y
open PySem PySem.Spec PyProof.Rows L2
def iZ (v : EV) (h : EH) (P : Bool → Prop) : Prop := match v with
  | .bl b => P b
  | .non => P false
  | .int i => P (i != 0)
  | .str s => s.length ≤ sizeLine ∧ P (!s.isEmpty)
  | .tup xs => P (!xs.isEmpty)
  | .ref r => match h[r]? with
    | some (.lst xs) => P (!xs.isEmpty)
    | some (.dic xs) => P (!xs.isEmpty)
    | _ => False
  | _ => False
def lT (t : LT) : LTt := fun env h P => t env h fun v h1 => iZ v h1 fun b => P b h1
def cV (t u : LTt) : LTt := fun env h P => t env h fun c h1 => if c = true then u env h1 P else P false h1
def lOr (t u : LTt) : LTt := fun env h P => t env h fun c h1 => if c = true then P true h1 else u env h1 P
def dB (t : LTt) : LTt := fun env h P => t env h fun c h1 => P (!c) h1
def lIf (t : LTt) (ta tb : LT) : LT := fun env h P => t env h fun c h1 => if c = true then ta env h1 P else tb env h1 P
def bV (ta tb : LT) : LT := fun env h P => ta env h fun v h1 => match v with
  | .bl c => if c = true then tb env h1 P else P (.bl false) h1
  | _ => False
def fK (ta tb : LT) : LT := fun env h P => ta env h fun v h1 => match v with
  | .bl c => if c = true then P (.bl true) h1 else tb env h1 P
  | _ => False
def cO (ta : LT) : LT := fun env h P => ta env h fun v h1 => match v with
  | .bl c => P (.bl (!c)) h1
  | _ => False
section
variable {K : PySem.W.Frag} {m : Nat → Addr} {H : Hp} {h : EH}
theorem aG.isEmpty {n : Nat} {es : List EV} {vs : List V} (r : aG K m n H es vs) : vs.isEmpty = es.isEmpty := by
  cases es with
  | nil => rw [aG] at r; subst r; rfl
  | cons a l => rw [aG] at r; obtain ⟨v, t, rfl, _, _⟩ := r; rfl
theorem bK.isEmpty {n : Nat} {es : List (EV × EV)} {vs : List (L2.Key × V)} (r : bK K m n H es vs) : vs.isEmpty = es.isEmpty := by
  cases es with
  | nil => rw [bK] at r; subst r; rfl
  | cons a l => rw [bK] at r; obtain ⟨v, t, u, rfl, _, _⟩ := r; rfl
theorem tru_sim {v : EV} {x : V} {P : Bool → Prop} (R : dD K m h H) (r : az K m h.length H v x) (q : iZ v h P) : ∃ k, TruV K x H k ∧ P k := by
  unfold iZ at q
  split at q
  · rw [az] at r; subst r; exact ⟨_, rfl, q⟩
  · rw [az] at r; subst r; exact ⟨_, rfl, q⟩
  · rw [az] at r; subst r; exact ⟨_, rfl, q⟩
  · rename_i s
    rw [az] at r; subst r
    refine ⟨_, ⟨by rw [S_len]; exact q.1, rfl⟩, ?_⟩
    rw [S_len]
    have e : (((s.length : Nat) : Int) != 0) = !s.isEmpty := by
      cases s <;> simp
      omega
    rw [e]; exact q.2
  · rw [az] at r
    obtain ⟨a, vs, rfl, hs, r⟩ := r
    exact ⟨_, .inr (.inl ⟨vs, SqT.of hs, rfl⟩), by rw [r.isEmpty]; exact q⟩
  · rw [az] at r
    obtain ⟨_, rfl⟩ := r
    split at q
    · rename_i e
      obtain ⟨vs, a, r⟩ := R.obj _ _ e
      exact ⟨_, .inl ⟨vs, SqL.of a, rfl⟩, by rw [r.isEmpty]; exact q⟩
    · rename_i e
      obtain ⟨vs, a, r⟩ := R.obj _ _ e
      exact ⟨_, .inr (.inr ⟨vs, a, rfl⟩), by rw [r.isEmpty]; exact q⟩
    · exact q.elim
  · exact q.elim
end
section
variable {X : Cx} {a b c e : Expr} {es : List Expr} {ta tb : LT} {t u : LTt} {pos : Pos} {rest : List Expr}
theorem jA (ha : LE X a ta) (he : ∀ whole, isTrue a X.env whole = (do let v ← whole; standAt a.pos; holding [v] (truthy v)) := by intro _; rfl) : LTe X a (lT ta) := by
  refine ⟨PT.imp (pt_truth ha.pe he) fun σ H Q ⟨m, env, h, P, at_, t1, k⟩ => ⟨m, env, h, _, at_, t1, fun v h1 p1 m1 H1 x E1 R1 r1 => ?_⟩⟩
  obtain ⟨c, tc, pc⟩ := tru_sim R1 r1 p1
  exact ⟨c, tc, k c h1 pc m1 H1 E1 R1⟩
theorem LWe.lt (w : LWe X e t) : LTe X e t := ⟨w.pw.pt⟩
theorem lw_and1 (ha : LTe X a t) : LWe X (.BoolOp .And [a] pos) t := ⟨pw_and1 ha.pt⟩
theorem lw_or1 (ha : LTe X a t) : LWe X (.BoolOp .Or [a] pos) t := ⟨pw_or1 ha.pt⟩
theorem lw_and (ha : LTe X a t) (hb : LWe X (.BoolOp .And (b :: rest) pos) u) : LWe X (.BoolOp .And (a :: b :: rest) pos) (cV t u) := by
  refine ⟨PW.imp (pw_and ha.pt hb.pw) fun σ H Q ⟨m, env, h, P, at_, t1, k⟩ => ⟨m, env, h, _, at_, t1, fun c h1 p1 m1 H1 E1 R1 => ?_⟩⟩
  cases c with
  | true =>
    rw [if_pos rfl] at p1 ⊢
    exact ⟨m1, env, h1, P, at_.ex E1 R1, p1, fun c2 h2 p2 m2 H2 E2 R2 => k c2 h2 p2 m2 H2 (E1.trans E2) R2⟩
  | false =>
    rw [if_neg Bool.false_ne_true] at p1 ⊢
    exact k _ _ p1 m1 H1 E1 R1
theorem lw_or (ha : LTe X a t) (hb : LWe X (.BoolOp .Or (b :: rest) pos) u) : LWe X (.BoolOp .Or (a :: b :: rest) pos) (lOr t u) := by
  refine ⟨PW.imp (pw_or ha.pt hb.pw) fun σ H Q ⟨m, env, h, P, at_, t1, k⟩ => ⟨m, env, h, _, at_, t1, fun c h1 p1 m1 H1 E1 R1 => ?_⟩⟩
  cases c with
  | false =>
    rw [if_neg Bool.false_ne_true] at p1 ⊢
    exact ⟨m1, env, h1, P, at_.ex E1 R1, p1, fun c2 h2 p2 m2 H2 E2 R2 => k c2 h2 p2 m2 H2 (E1.trans E2) R2⟩
  | true =>
    rw [if_pos rfl] at p1 ⊢
    exact k _ _ p1 m1 H1 E1 R1
theorem lt_not (ha : LTe X a t) : LTe X (.UnaryOp .Not a pos) (dB t) :=
  ⟨PT.imp (pt_not ha.pt) fun σ H Q ⟨m, env, h, P, at_, t1, k⟩ => ⟨m, env, h, _, at_, t1, fun c h1 p1 m1 H1 E1 R1 => k _ _ p1 m1 H1 E1 R1⟩⟩
theorem le_if (hc : LTe X c t) (ha : LE X a ta) (hb : LE X b tb) : LE X (.IfExp c a b pos) (lIf t ta tb) := by
  refine ⟨PE.imp (pe_ifExp hc.pt ha.pe hb.pe) fun σ H Q ⟨m, env, h, P, at_, t1, k⟩ => ⟨m, env, h, _, at_, t1, fun c h1 p1 m1 H1 E1 R1 => ?_⟩⟩
  cases c with
  | true =>
    rw [if_pos rfl] at p1 ⊢
    exact ⟨m1, env, h1, P, at_.ex E1 R1, p1, k.ex E1⟩
  | false =>
    rw [if_neg Bool.false_ne_true] at p1 ⊢
    exact ⟨m1, env, h1, P, at_.ex E1 R1, p1, k.ex E1⟩
theorem le_one {op} (ha : LE X a ta) : LE X (.BoolOp op [a] pos) ta := ⟨pe_one ha.pe⟩
theorem le_and (ha : LE X a ta) (hb : LE X (.BoolOp .And (b :: rest) pos) tb) : LE X (.BoolOp .And (a :: b :: rest) pos) (bV ta tb) := by
  refine ⟨PE.imp (pe_and ha.pe hb.pe) fun σ H Q ⟨m, env, h, P, at_, t1, k⟩ => ⟨m, env, h, _, at_, t1, fun v h1 p1 m1 H1 x E1 R1 r1 => ?_⟩⟩
  cases v with
  | bl c =>
    rw [az] at r1
    refine ⟨c, r1, ?_⟩
    cases c with
    | true =>
      exact ⟨m1, env, h1, P, at_.ex E1 R1, p1, k.ex E1⟩
    | false => exact k _ _ p1 m1 H1 _ E1 R1 (by rw [az])
  | _ => exact p1.elim
theorem le_or (ha : LE X a ta) (hb : LE X (.BoolOp .Or (b :: rest) pos) tb) : LE X (.BoolOp .Or (a :: b :: rest) pos) (fK ta tb) := by
  refine ⟨PE.imp (pe_or ha.pe hb.pe) fun σ H Q ⟨m, env, h, P, at_, t1, k⟩ => ⟨m, env, h, _, at_, t1, fun v h1 p1 m1 H1 x E1 R1 r1 => ?_⟩⟩
  cases v with
  | bl c =>
    rw [az] at r1
    refine ⟨c, r1, ?_⟩
    cases c with
    | false =>
      exact ⟨m1, env, h1, P, at_.ex E1 R1, p1, k.ex E1⟩
    | true => exact k _ _ p1 m1 H1 _ E1 R1 (by rw [az])
  | _ => exact p1.elim
theorem le_not (ha : LE X a ta) : LE X (.UnaryOp .Not a pos) (cO ta) := by
  refine ⟨PE.imp (pe_not ha.pe) fun σ H Q ⟨m, env, h, P, at_, t1, k⟩ => ⟨m, env, h, _, at_, t1, fun v h1 p1 m1 H1 x E1 R1 r1 => ?_⟩⟩
  cases v with
  | bl c =>
    rw [az] at r1
    exact ⟨c, r1, k _ _ p1 m1 H1 _ E1 R1 (by rw [az])⟩
  | _ => exact p1.elim
end
def aq : LA := fun _ h P => P [] h
def aa (ta : LT) (tr : LA) : LA := fun env h P => ta env h fun x h1 => tr env h1 fun xs h2 => P (x :: xs) h2
def aY (t : LA) : LT := fun env h P => t env h fun xs h1 => xs.length ≤ sizeLine ∧ P (.tup xs) h1
def bR (t : LA) : LT := fun env h P => t env h fun xs h1 => xs.length ≤ sizeLine ∧ P (.ref h1.length) (h1 ++ [.lst xs])
section
variable {X : Cx} {a b c e : Expr} {es : List Expr} {ta tb : LT} {t : LA} {pos : Pos}
theorem au : LAs X [] aq := ⟨PA.imp pa_nil fun σ H Q ⟨m, env, h, P, at_, t1, k⟩ => k _ _ t1 m H [] .refl at_.hp .nil⟩
theorem aj (ha : LE X e ta) (hr : LAs X es t) (hs : starEach (e :: es) X.env = (false, eval e X.env) :: starEach es X.env := by rfl) : LAs X (e :: es) (aa ta t) :=
  ⟨PA.imp (pa_cons ha.pe hr.pa hs) fun σ H Q ⟨m, env, h, P, at_, t1, k⟩ => ⟨m, env, h, _, at_, t1, fun x h1 p1 m1 H1 v E1 R1 r1 =>
    ⟨m1, env, h1, _, at_.ex E1 R1, p1, fun xs h2 p2 m2 H2 vs E2 R2 r2 => k _ _ p2 m2 H2 _ (E1.trans E2) R2 (.cons (az.ex E2 _ _ r1) r2)⟩⟩⟩
theorem dC {k1} (ht : LAs X es t) : LE X (.Tuple es k1 pos) (aY t) :=
  ⟨PE.imp (pe_tup ht.pa) fun σ H Q ⟨m, env, h, P, at_, t1, k⟩ => ⟨m, env, h, _, at_, t1, fun xs h1 p1 m1 H1 vs E1 R1 r1 =>
    ⟨by rw [← r1.length]; exact p1.1, fun p hp => (k.ex E1).tup R1 p1.2 r1 hp⟩⟩⟩
theorem iV (ht : LAs X es t) : LE X (.List es pos) (bR t) :=
  ⟨PE.imp (pe_lst ht.pa) fun σ H Q ⟨m, env, h, P, at_, t1, k⟩ => ⟨m, env, h, _, at_, t1, fun xs h1 p1 m1 H1 vs E1 R1 r1 =>
    ⟨by rw [← r1.length]; exact p1.1, fun p hp => (k.ex E1).lst R1 p1.2 r1 hp⟩⟩⟩
end
abbrev LC := List EV → EH → EK → Prop
def LCl (K : PySem.W.Frag) (r : List V → Hp → VK → Prop) (c : LC) : Prop :=
  ∀ (m : Nat → Addr) (h : EH) (H : Hp) (vs : List EV) (xs : List V) (P : EK) (Q : VK), dD K m h H → aG K m h.length H vs xs → c vs h P → Kon K m h.length H P Q → r xs H Q
def oh (X : Cx) (f : Value) (c : LC) : Prop := ∃ r, CallR X f r ∧ LCl X.K r c
def lCB (c : LC) (t : LA) : LT := fun env h P => t env h fun vs h1 => c vs h1 P
theorem CallR.or {X : Cx} {f : Value} {r r' : List V → Hp → VK → Prop} (a : CallR X f r) (b : CallR X f r') : CallR X f (fun xs H Q => r xs H Q ∨ r' xs H Q) := by
  intro pins s σ H xs us Q I rv q
  rcases q with q | q
  · exact a pins s σ H xs us Q I rv q
  · exact b pins s σ H xs us Q I rv q
theorem aG.one_inv {K : PySem.W.Frag} {m : Nat → Addr} {n : Nat} {H : Hp} {x : EV} {vs : List V} (r : aG K m n H [x] vs) : ∃ v, vs = [v] ∧ az K m n H x v := by
  rw [aG] at r
  obtain ⟨v, l, rfl, a, b⟩ := r
  rw [aG] at b
  subst b
  exact ⟨v, rfl, a⟩
theorem aG.two_inv {K : PySem.W.Frag} {m : Nat → Addr} {n : Nat} {H : Hp} {x y : EV} {vs : List V} (r : aG K m n H [x, y] vs) : ∃ v w, vs = [v, w] ∧ az K m n H x v ∧ az K m n H y w := by
  rw [aG] at r
  obtain ⟨v, l, rfl, a, b⟩ := r
  obtain ⟨w, rfl, c⟩ := b.one_inv
  exact ⟨v, w, rfl, a, c⟩
section
variable {X : Cx} {e : Expr} {es : List Expr} {c : LC} {t : LA} {pos p : Pos} {x : Str} {id T : String}
theorem up_cb {K : PySem.W.Frag} {r : List V → Hp → VK → Prop} (s : LCl K r c) (σ : L2.St) (H : Hp) (Q : VK) (q : up K (lCB c t) σ H Q) : tCB r (upA K t) σ H Q := by
  obtain ⟨m, env, h, P, at_, t1, k⟩ := q
  exact ⟨m, env, h, _, at_, t1, fun vs h1 p1 m1 H1 xs E1 R1 r1 => s _ _ _ _ _ _ _ R1 r1 p1 (k.ex E1)⟩
theorem aR (hc : oh X (.builtin id) c) (hg : Gl X x) (hm : X.mg x = none) (hv : bootBuiltins x = some (.builtin id)) (ha : LAs X (e :: es) t) (hn : x ≠ "__name__" := by decide) (hdb : (x == ("__debug__" : Str)) = false := by decide)
    (he : starEach (e :: es) X.env = (false, eval e X.env) :: starEach es X.env := by rfl) (hpl : (backTo pos (starEach es X.env)).any (·.1) = false := by rfl) : LE X (.Call (.Name x p) (e :: es) [] pos) (lCB c t) := by
  obtain ⟨r, hr, s⟩ := hc
  exact ⟨PE.imp (pe_callB hr hg hm hv ha.pa hn hdb he hpl) (up_cb s)⟩
theorem eY (hc : oh X (.type T) c) (hg : Gl X x) (hm : X.mg x = none) (hv : bootBuiltins x = some (.type T)) (ha : LAs X (e :: es) t) (hn : x ≠ "__name__" := by decide) (hdb : (x == ("__debug__" : Str)) = false := by decide)
    (he : starEach (e :: es) X.env = (false, eval e X.env) :: starEach es X.env := by rfl) (hpl : (backTo pos (starEach es X.env)).any (·.1) = false := by rfl) : LE X (.Call (.Name x p) (e :: es) [] pos) (lCB c t) := by
  obtain ⟨r, hr, s⟩ := hc
  exact ⟨PE.imp (pe_callTy hr hg hm hv ha.pa hn hdb he hpl) (up_cb s)⟩
end
abbrev LM := EV → List EV → EH → EK → Prop
def LMl (K : PySem.W.Frag) (T : String) (r : V → List V → Hp → VK → Prop) (c : LM) : Prop :=
  ∀ (m : Nat → Addr) (h : EH) (H : Hp) (v : EV) (x : V) (vs : List EV) (xs : List V) (P : EK) (Q : VK), dD K m h H → az K m h.length H v x → aG K m h.length H vs xs → c v vs h P → Kon K m h.length H P Q → r x xs H Q
def isTy (T : String) (v : EV) (h : EH) : Prop := match v with
  | .str _ => T = "str"
  | .ref r => match h[r]? with
    | some (.lst _) => T = "list"
    | some (.dic _) => T = "dict"
    | _ => False
  | _ => False
def lBM (T : String) (c : LM) (to : LT) (t : LA) : LT := fun env h P => to env h fun x h1 => isTy T x h1 ∧ t env h1 fun vs h2 => c x vs h2 P
theorem isTy_sim {K : PySem.W.Frag} {m : Nat → Addr} {H : Hp} {h : EH} {T : String} {v : EV} {x : V} (R : dD K m h H) (r : az K m h.length H v x) (q : isTy T v h) : tyV K T x H := by
  unfold isTy at q
  split at q
  · rw [az] at r; subst r; exact q
  · rw [az] at r
    obtain ⟨_, rfl⟩ := r
    split at q
    · rename_i e
      obtain ⟨vs, a, _⟩ := R.obj _ _ e
      exact .inl ⟨q, vs, SqL.of a⟩
    · rename_i e
      obtain ⟨vs, a, _⟩ := R.obj _ _ e
      exact .inr (.inr (.inl ⟨q, .inl ⟨vs, a⟩⟩))
    · exact q.elim
  · exact q.elim
section
variable {X : Cx} {o e : Expr} {es : List Expr} {to : LT} {t : LA} {name : Str} {apos cpos : Pos} {T id : String} {r : V → List V → Hp → VK → Prop} {c : LM}
theorem le_bm (pa : PlainAttrs T) (slot : Slot T name id) (hty : typeOf (.builtin id) = pure (.type "method_descriptor")) (hm : MtR X id r) (s : LMl X.K T r c) (ho : LE X o to) (ha : LAs X (e :: es) t)
    (hbase : attributeBase o name X.env (eval o X.env) = eval o X.env := by rfl)
    (hfew : ((backTo cpos (starEach (e :: es) X.env)).all (fun x => !x.1) && (backToKw cpos (keywordEach [] X.env)).all (fun x => x.1.isSome)
      && decide ((e :: es).length + ([] : List Keyword).length + (if ([] : List Keyword).isEmpty then 0 else 1) < 30)) = true := by rfl)
    (hline : (apos.endLine == cpos.line) = true := by rfl) (hs : starEach (e :: es) X.env = (false, eval e X.env) :: starEach es X.env := by rfl) (hplain : (backTo cpos (starEach es X.env)).any (·.1) = false := by rfl) :
    LE X (.Call (.Attribute o name apos) (e :: es) [] cpos) (lBM T c to t) :=
  ⟨PE.imp (pe_bm pa slot hty hm ho.pe ha.pa hbase hfew hline hs hplain) fun σ H Q ⟨m, env, h, P, at_, t1, k⟩ => ⟨m, env, h, _, at_, t1, fun x h1 p1 m1 H1 v E1 R1 r1 =>
    ⟨isTy_sim R1 r1 p1.1, m1, env, h1, _, at_.ex E1 R1, p1.2, fun vs h2 p2 m2 H2 xs E2 R2 r2 => s _ _ _ _ _ _ _ _ _ R2 (az.ex E2 _ _ r1) r2 p2 (k.ex (E1.trans E2))⟩⟩⟩
end
def LIxR (X : Cx) (o : LO) : Prop := ∃ r, IxR X r ∧ LOp X.K r o
theorem bQ {X : Cx} {a b : Expr} {ta tb : LT} {o : LO} {pos : Pos} (hr : LIxR X o) (ha : LE X a ta) (hb : LE X b tb) (hs : PlainIx b := by exact fun _ _ => rfl) : LE X (.Subscript a b pos) (lOp o ta tb) := by
  obtain ⟨r, h, s⟩ := hr
  exact ⟨PE.imp (pe_ix h ha.pe hb.pe hs) (up_bin s)⟩
def ixE : LO := fun v w h P => match w with
  | .int i => match v with
    | .tup xs => match atI xs i with
      | some x => P x h
      | none => False
    | .ktup xs => match atI xs i with
      | some x => P x h
      | none => False
    | .str s => s.length ≤ sizeLine ∧ match atI s i with
      | some x => P (.str [x]) h
      | none => False
    | .ref r => match h[r]? with
      | some (.lst xs) => match atI xs i with
        | some x => P x h
        | none => False
      | some (.frz xs) => match atI xs i with
        | some x => P x h
        | none => False
      | _ => False
    | _ => False
  | _ => False
theorem aG.atI {K : PySem.W.Frag} {m : Nat → Addr} {n : Nat} {H : Hp} {es : List EV} {vs : List V} {i : Int} {x : EV} (r : aG K m n H es vs) (e : atI es i = some x) : ∃ v, L2.atI vs i = some v ∧ az K m n H x v := by
  unfold L2.atI at e ⊢
  rw [← r.length]
  cases q : ixN es.length i with
  | none => rw [q] at e; cases e
  | some j =>
    rw [q] at e
    exact r.at e
theorem lix {X : Cx} : LIxR X ixE := by
  refine ⟨_, ix_seq, ?_⟩
  intro m h H v w x y P Q R rx ry q k
  unfold ixE at q
  split at q
  · rw [az] at ry
    subst ry
    split at q
    · rw [az] at rx
      obtain ⟨a, vs, rfl, hs, r⟩ := rx
      split at q
      · rename_i e
        obtain ⟨u, a1, r1⟩ := r.atI e
        exact .inr (.inl ⟨_, _, _, u, rfl, rfl, SqT.of hs, a1, k.same R q r1⟩)
      · exact q.elim
    · rw [az] at rx
      obtain ⟨a, vs, rfl, hs, r⟩ := rx
      split at q
      · rename_i e
        obtain ⟨u, a1, r1⟩ := r.atI e
        exact .inr (.inl ⟨_, _, _, u, rfl, rfl, hs, a1, k.same R q r1⟩)
      · exact q.elim
    · rw [az] at rx
      subst rx
      obtain ⟨q1, q⟩ := q
      split at q
      · rename_i e
        exact .inr (.inr ⟨_, _, _, rfl, rfl, by rw [S_len]; exact q1, by simpa using e, k.same R q (by rw [az])⟩)
      · exact q.elim
    · rw [az] at rx
      obtain ⟨_, rfl⟩ := rx
      split at q
      · rename_i e
        obtain ⟨vs, a, r⟩ := R.obj _ _ e
        split at q
        · rename_i e
          obtain ⟨u, a1, r1⟩ := r.atI e
          exact .inl ⟨_, _, _, u, rfl, rfl, SqL.of a, a1, k.same R q r1⟩
        · exact q.elim
      · rename_i e
        obtain ⟨vs, a, r⟩ := R.obj _ _ e
        split at q
        · rename_i e
          obtain ⟨u, a1, r1⟩ := r.atI e
          exact .inl ⟨_, _, _, u, rfl, rfl, a.sql, a1, k.same R q r1⟩
        · exact q.elim
      · exact q.elim
    · exact q.elim
  · exact q.elim
abbrev LO_ := En → EH → (Option Int → EH → Prop) → Prop
def aJ : Option LT → LO_
  | none => fun _ h P => P none h
  | some t => fun env h P => t env h fun v h1 => match v with
    | .int i => P (some i) h1
    | _ => False
def upO (K : PySem.W.Frag) (t : LO_) : L2.St → Hp → (Option Int → Hp → Prop) → Prop := fun σ H Q => ∃ m env h P, At K env h m σ H ∧ t env h P ∧
  ∀ b h', P b h' → ∀ (m' : Nat → Addr) (H' : Hp), Ex K m h.length H m' h'.length H' → dD K m' h' H' → Q b H'
def LPo (X : Cx) (e : Option Expr) (t : LO_) : Prop := ∃ u, PO X e u ∧ ∀ σ H Q, upO X.K t σ H Q → u σ H Q
theorem dM {X : Cx} : LPo X none (aJ none) := ⟨_, po_none, fun σ H Q ⟨m, env, h, P, at_, t1, k⟩ => k _ _ t1 m H .refl at_.hp⟩
theorem dI {X : Cx} {e : Expr} {t : LT} (he : LE X e t) : LPo X (some e) (aJ (some t)) := by
  refine ⟨_, po_some he.pe, fun σ H Q ⟨m, env, h, P, at_, t1, k⟩ => ⟨m, env, h, _, at_, t1, fun v h1 p1 m1 H1 x E1 R1 r1 => ?_⟩⟩
  cases v with
  | int i =>
    rw [az] at r1
    exact ⟨i, r1, k _ _ p1 m1 H1 E1 R1⟩
  | _ => exact p1.elim
def cut {α : Type} (xs : List α) (lo hi : Option Int) : List α := (xs.drop (HT.sIx xs.length 0 lo)).take (HT.sIx xs.length xs.length hi - HT.sIx xs.length 0 lo)
abbrev LSlc := EV → Option Int → Option Int → EH → EK → Prop
def slE : LSlc := fun v lo hi h P => match v with
  | .tup xs => P (.tup (cut xs lo hi)) h
  | .str s => s.length ≤ sizeLine ∧ P (.str (cut s lo hi)) h
  | .ref r => match h[r]? with
    | some (.lst xs) => P (.ref h.length) (h ++ [.lst (cut xs lo hi)])
    | some (.frz xs) => P (.ref h.length) (h ++ [.lst (cut xs lo hi)])
    | _ => False
  | _ => False
def lSl (to : LT) (tl th : LO_) : LT := fun env h P => to env h fun x h1 => tl env h1 fun l h2 => th env h2 fun u h3 => slE x l u h3 P
theorem aG.cut {K : PySem.W.Frag} {m : Nat → Addr} {n : Nat} {H : Hp} {es : List EV} {vs : List V} {lo hi : Option Int} (r : aG K m n H es vs) : aG K m n H (cut es lo hi) (cutV vs lo hi) := by
  unfold Y.cut cutV
  rw [← r.length]
  exact aG.take _ (aG.drop _ r)
theorem cut_S (s : List Nat) (lo hi : Option Int) : cutS (S s) lo hi = S (cut s lo hi) := by
  unfold cutS Y.cut
  rw [S_len]
theorem cut_all {α : Type} {xs : List α} {lo hi : Option Int} (h : HT.sIx xs.length 0 lo = 0 ∧ HT.sIx xs.length xs.length hi = xs.length) : cut xs lo hi = xs := by
  unfold cut
  rw [h.1, h.2]
  simp
theorem dJ {X : Cx} {e : Expr} {lo hi : Option Expr} {to : LT} {tl th : LO_} {p2 pos : Pos} (he : LE X e to) (hl : LPo X lo tl) (hu : LPo X hi th) : LE X (.Subscript e (.Slice lo hi none p2) pos) (lSl to tl th) := by
  obtain ⟨u1, h1, s1⟩ := hl
  obtain ⟨u2, h2, s2⟩ := hu
  refine ⟨PE.imp (pe_slice (SlR.or sl_list (SlR.or sl_tupA sl_str)) he.pe h1 h2) fun σ H Q ⟨m, env, h, P, at_, t1, k⟩ => ⟨m, env, h, _, at_, t1, fun v h1 p1 m1 H1 x E1 R1 r1 => s1 _ _ _ ⟨m1, env, h1, _, at_.ex E1 R1, p1, fun l h2 p2 m2 H2 E2 R2 =>
    s2 _ _ _ ⟨m2, env, h2, _, (at_.ex E1 R1).ex E2 R2, p2, fun u h3 p3 m3 H3 E3 R3 => ?_⟩⟩⟩⟩
  have r3 := az.ex (E2.trans E3) _ _ r1
  have k3 := k.ex ((E1.trans E2).trans E3)
  unfold slE at p3
  split at p3
  · rename_i xs
    rw [az] at r3
    obtain ⟨a, vs, rfl, hs, r⟩ := r3
    refine .inr (.inl ⟨a, vs, rfl, SqT.of hs, fun w => ?_, fun _ p hp => k3.tup R3 p3 r.cut hp⟩)
    rw [← r.length] at w
    rw [cut_all w] at p3
    exact k3.same R3 p3 (by rw [az]; exact ⟨a, vs, rfl, hs, r⟩)
  · rw [az] at r3
    subst r3
    exact .inr (.inr ⟨_, rfl, by rw [S_len]; exact p3.1, by rw [cut_S]; exact k3.same R3 p3.2 (by rw [az])⟩)
  · rw [az] at r3
    obtain ⟨_, rfl⟩ := r3
    split at p3
    · rename_i e
      obtain ⟨vs, a, r⟩ := R3.obj _ _ e
      exact .inl ⟨_, _, rfl, SqL.of a, fun p hp => k3.lst R3 p3 r.cut hp⟩
    · rename_i e
      obtain ⟨vs, a, r⟩ := R3.obj _ _ e
      exact .inl ⟨_, _, rfl, a.sql, fun p hp => k3.lst R3 p3 r.cut hp⟩
    · exact p3.elim
  · exact p3.elim
end Y
namespace Y
open PySem PySem.Spec PyProof.Rows L2
def aV : LS := fun D env h => D.nx env h
def aD (t u : LS) : LS := fun D env h => t { D with nx := u D } env h
def bh (t : LT) : LS := fun D env h => t env h fun _ h1 => D.nx env h1
def aW (t : LT) : LS := fun D env h => t env h D.rt
def cQ : LS := fun D _ h => D.rt .non h
def bB (c : LTt) (t u : LS) : LS := fun D env h => c env h fun b h1 => if b = true then t D env h1 else u D env h1
section
variable {X : Cx} {st : Stmt} {rest a b : List Stmt} {t u : LS} {e c : Expr} {te : LT} {tc : LTt} {pos : Pos}
theorem dH : LSs X [] aV := ⟨PSs.imp pss_nil fun D σ H ⟨m, env, h, P, at_, t1, k⟩ => k.nx _ _ t1 m H σ .refl at_⟩
theorem aC (h1 : LSt X st t) (h2 : LSs X rest u) : LSs X (st :: rest) (aD t u) := by
  refine ⟨PSs.imp (pss_cons h1.ps h2.pss) fun D σ H ⟨m, env, h, P, at_, t1, k⟩ => ⟨m, env, h, { P with nx := u P }, at_, t1, ⟨?_, k.rt, k.bk, k.ct⟩⟩⟩
  intro env' h' p m' H' σ' E a
  exact ⟨m', env', h', P, a, p, k.ex E⟩
theorem aF (h1 : LSt X st t) : LSs X [st] t := ⟨pss_one h1.ps⟩
theorem kE (he : LE X e te) (hs : swapsWith e none pos.line X.env = pure false := by rfl) : LSt X (.Expr e pos) (bh te) :=
  ⟨PS.imp (ps_expr he.pe hs) fun D σ H ⟨m, env, h, P, at_, t1, k⟩ => ⟨m, env, h, _, at_, t1, fun v h1 p1 m1 H1 x E1 R1 r1 => k.nx _ _ p1 m1 H1 σ E1 (at_.ex E1 R1)⟩⟩
theorem bH (he : LE X e te) : LSt X (.Return (some e) pos) (aW te) :=
  ⟨PS.imp (ps_ret he.pe) fun D σ H ⟨m, env, h, P, at_, t1, k⟩ => ⟨m, env, h, _, at_, t1, k.rt⟩⟩
theorem gY (hc : LTe X c tc) (ha : LSs X a t) (hb : LSs X b u) : LSt X (.If c a b pos) (bB tc t u) := by
  refine ⟨PS.imp (ps_if hc.pt ha.pss hb.pss) fun D σ H ⟨m, env, h, P, at_, t1, k⟩ => ⟨m, env, h, _, at_, t1, fun c h1 p1 m1 H1 E1 R1 => ?_⟩⟩
  cases c with
  | true =>
    rw [if_pos rfl] at p1 ⊢
    exact ⟨m1, env, h1, P, at_.ex E1 R1, p1, k.ex E1⟩
  | false =>
    rw [if_neg Bool.false_ne_true] at p1 ⊢
    exact ⟨m1, env, h1, P, at_.ex E1 R1, p1, k.ex E1⟩
def lNever : LS := fun _ _ _ => False
theorem ls_never : LSt X st lNever := ⟨PS.imp ps_never fun D σ H ⟨m, env, h, P, at_, t1, k⟩ => t1⟩
end
inductive Pat where
  | nm (i : Nat)
  | tp (ps : List Pat)
mutual
def Pat.bind (h : EH) : Pat → EV → En → Option En
  | .nm i, v, env => some (env.set i (some v))
  | .tp ps, .tup vs, env => Pat.binds h ps vs env
  | .tp ps, .ref r, env => match h[r]? with
    | some (.lst vs) => Pat.binds h ps vs env
    | _ => none
  | .tp _, _, _ => none
def Pat.binds (h : EH) : List Pat → List EV → En → Option En
  | [], [], env => some env
  | p :: ps, v :: vs, env => match Pat.bind h p v env with
    | some e => Pat.binds h ps vs e
    | none => none
  | _, _, _ => none
end
def gSq (K : PySem.W.Frag) (n : Nat) (t : TGs) : TG := fun v σ H Q => gTup K n t v σ H Q ∨ gLst K n t v σ H Q
theorem pg_sq {X : Cx} {es : List Expr} {k : Nat} {t : TGs} {n : Nat} {pos : Pos} (hc : X.calm = true) (h : PGs X es t)
    (hn : (assignEach es X.env).length = n := by rfl) (hst : (assignEach es X.env).findIdx? (·.1) = none := by rfl) : PG X (.Tuple es k pos) (gSq X.K n t) :=
  ⟨fun pins s σ H v u Q I r hw => hw.elim (fun w => (pg_tup (k := k) (pos := pos) hc h hn hst).run pins s σ H v u Q I r w) fun w => (pg_lst (k := k) (pos := pos) hc h hn hst).run pins s σ H v u Q I r w⟩
mutual
def gP (K : PySem.W.Frag) : Pat → TG
  | .nm i => gName i
  | .tp ps => gSq K ps.length (gPs K ps)
def gPs (K : PySem.W.Frag) : List Pat → TGs
  | [] => gNil
  | p :: ps => gCons (gP K p) (gPs K ps)
end
mutual
def Pat.slots : Pat → List Nat
  | .nm i => [i]
  | .tp ps => Pat.slotsAll ps
def Pat.slotsAll : List Pat → List Nat
  | [] => []
  | p :: ps => Pat.slots p ++ Pat.slotsAll ps
end
section
variable {K : PySem.W.Frag} {m : Nat → Addr} {n : Nat} {H : Hp} {h : EH}
theorem RelN.set {env : En} {σ : L2.St} {v : EV} {x : V} (R : RelN K m n H env σ) (r : az K m n H v x) (i : Nat) : RelN K m n H (env.set i (some v)) (σ.set i (some x)) := by
  refine ⟨by simpa using R.1, fun j w hj => ?_⟩
  by_cases e : i = j
  · subst e
    have hl : i < env.length := by
      have := (List.getElem?_eq_some_iff.mp hj).1
      simpa using this
    rw [List.getElem?_set_self hl] at hj
    cases hj
    exact ⟨x, List.getElem?_set_self (by rw [← R.1]; exact hl), r⟩
  · rw [List.getElem?_set_ne e] at hj
    obtain ⟨y, a, b⟩ := R.2 j w hj
    exact ⟨y, by rw [List.getElem?_set_ne e]; exact a, b⟩
mutual
theorem Pat.sim (RH : dD K m h H) : ∀ (p : Pat) (v : EV) (x : V) (env env' : En) (σ : L2.St), RelN K m h.length H env σ → az K m h.length H v x → Pat.bind h p v env = some env' →
    ∃ σ', (∀ Q, Q σ' H → gP K p x σ H Q) ∧ RelN K m h.length H env' σ' ∧ (∀ i, i ∉ Pat.slots p → σ'[i]? = σ[i]?) ∧ σ'.length = σ.length
  | .nm i, v, x, env, env', σ, R, r, e => by
    rw [Pat.bind] at e
    cases e
    refine ⟨σ.set i (some x), fun Q q => by rw [gP]; exact q, R.set r i, fun j hj => ?_, by simp⟩
    rw [Pat.slots] at hj
    exact List.getElem?_set_ne (fun z => hj (by simp [z]))
  | .tp ps, .tup vs, x, env, env', σ, R, r, e => by
    rw [Pat.bind] at e
    rw [az] at r
    obtain ⟨a, xs, rfl, hs, r⟩ := r
    obtain ⟨σ', f, R', s, l, z⟩ := Pat.sims RH ps vs xs env env' σ R r e
    refine ⟨σ', fun Q q => ?_, R', fun j hj => s j (by rw [Pat.slots] at hj; exact hj), z⟩
    rw [gP]
    exact .inl ⟨a, xs, rfl, SqT.of hs, l, f Q q⟩
  | .tp ps, .non, x, env, env', σ, R, r, e => by simp [Pat.bind] at e
  | .tp ps, .ktup _, x, env, env', σ, R, r, e => by simp [Pat.bind] at e
  | .tp ps, .bl _, x, env, env', σ, R, r, e => by simp [Pat.bind] at e
  | .tp ps, .int _, x, env, env', σ, R, r, e => by simp [Pat.bind] at e
  | .tp ps, .str _, x, env, env', σ, R, r, e => by simp [Pat.bind] at e
  | .tp ps, .ref q, x, env, env', σ, R, r, e => by
    rw [Pat.bind] at e
    rw [az] at r
    obtain ⟨_, rfl⟩ := r
    split at e
    · rename_i vs e1
      obtain ⟨xs, a, r2⟩ := RH.obj _ _ e1
      obtain ⟨σ', f, R', s, l, z⟩ := Pat.sims RH ps vs xs env env' σ R r2 e
      refine ⟨σ', fun Q q => ?_, R', fun j hj => s j (by rw [Pat.slots] at hj; exact hj), z⟩
      rw [gP]
      exact .inr ⟨_, xs, rfl, SqL.of a, l, f Q q⟩
    · cases e
  | .tp ps, .adr _, x, env, env', σ, R, r, e => by simp [Pat.bind] at e
  | .tp ps, .ty _, x, env, env', σ, R, r, e => by simp [Pat.bind] at e
theorem Pat.sims (RH : dD K m h H) : ∀ (ps : List Pat) (vs : List EV) (xs : List V) (env env' : En) (σ : L2.St), RelN K m h.length H env σ → aG K m h.length H vs xs → Pat.binds h ps vs env = some env' →
    ∃ σ', (∀ Q, Q σ' H → gPs K ps xs σ H Q) ∧ RelN K m h.length H env' σ' ∧ (∀ i, i ∉ Pat.slotsAll ps → σ'[i]? = σ[i]?) ∧ xs.length = ps.length ∧ σ'.length = σ.length
  | [], [], xs, env, env', σ, R, r, e => by
    rw [Pat.binds] at e
    cases e
    rw [aG] at r
    subst r
    exact ⟨σ, fun Q q => by rw [gPs]; exact ⟨rfl, q⟩, R, fun _ _ => rfl, rfl, rfl⟩
  | [], _ :: _, xs, env, env', σ, R, r, e => by simp [Pat.binds] at e
  | _ :: _, [], xs, env, env', σ, R, r, e => by simp [Pat.binds] at e
  | p :: ps, v :: vs, xs, env, env', σ, R, r, e => by
    rw [Pat.binds] at e
    rw [aG] at r
    obtain ⟨x, l, rfl, r1, r2⟩ := r
    split at e
    · rename_i env1 e1
      obtain ⟨σ1, f1, R1, s1, z1⟩ := Pat.sim RH p v x env env1 σ R r1 e1
      obtain ⟨σ2, f2, R2, s2, l2, z2⟩ := Pat.sims RH ps vs l env1 env' σ1 R1 r2 e
      refine ⟨σ2, fun Q q => ?_, R2, fun j hj => ?_, by simp [l2], z2.trans z1⟩
      · rw [gPs]
        exact ⟨x, l, rfl, f1 _ (f2 Q q)⟩
      · rw [Pat.slotsAll] at hj
        rw [s2 j (fun z => hj (List.mem_append_right _ z)), s1 j (fun z => hj (List.mem_append_left _ z))]
    · cases e
end
end
structure LG (X : Cx) (tg : Expr) (p : Pat) : Prop where
  pg : PG X tg (gP X.K p)
structure LGs (X : Cx) (ts : List Expr) (ps : List Pat) : Prop where
  pgs : PGs X ts (gPs X.K ps)
section
variable {X : Cx} {pos : Pos}
theorem aO (i : Nat) {x : Str} (hN : X.N.Nodup) (hi : X.N[i]? = some x := by rfl) (hx : Loc X.env.scope x := by first | exact Or.inl rfl | exact Or.inr rfl) (hf : X.fn x = true ∨ X.env.scope.names.lookup x = some .local := by first | exact .inl rfl | exact .inr rfl) : LG X (.Name x pos) (.nm i) :=
  ⟨by rw [gP]; exact pg_name hN hi hx hf⟩
theorem jK : LGs X [] [] := ⟨by rw [gPs]; exact pgs_nil⟩
theorem bT {e : Expr} {es : List Expr} {p : Pat} {ps : List Pat} (h1 : LG X e p) (h2 : LGs X es ps) (hs : (assignEach (e :: es) X.env).map (·.2) = assign e X.env :: (assignEach es X.env).map (·.2) := by rfl) : LGs X (e :: es) (p :: ps) :=
  ⟨by rw [gPs]; exact pgs_cons h1.pg h2.pgs hs⟩
theorem mU {es : List Expr} {k : Nat} {ps : List Pat} (hc : X.calm = true) (h : LGs X es ps) (hn : (assignEach es X.env).length = ps.length := by rfl) (hst : (assignEach es X.env).findIdx? (·.1) = none := by rfl) : LG X (.Tuple es k pos) (.tp ps) :=
  ⟨by rw [gP]; exact pg_sq hc h.pgs hn hst⟩
end
def cH (h : EH) (p : Pat) (v : EV) (env : En) (P : En → Prop) : Prop := match Pat.bind h p v env with
  | some e => P e
  | none => False
theorem rE {K : PySem.W.Frag} {m : Nat → Addr} {h : EH} {H : Hp} {p : Pat} {v : EV} {x : V} {env : En} {σ : L2.St} {P : En → Prop} (RH : dD K m h H) (R : RelN K m h.length H env σ) (r : az K m h.length H v x) (q : cH h p v env P) :
    ∃ env' σ', P env' ∧ (∀ Q, Q σ' H → gP K p x σ H Q) ∧ RelN K m h.length H env' σ' ∧ (∀ i, i ∉ Pat.slots p → σ'[i]? = σ[i]?) ∧ σ'.length = σ.length := by
  unfold cH at q
  split at q
  · rename_i env' e
    obtain ⟨σ', f, R', s⟩ := Pat.sim RH p v x env env' σ R r e
    exact ⟨env', σ', q, f, R', s⟩
  · exact q.elim
def di (te : LT) (p : Pat) : LS := fun D env h => te env h fun v h1 => cH h1 p v env fun env' => D.nx env' h1
def aU (te : LT) (i : Nat) : LS := fun D env h => te env h fun v h1 => D.nx (env.set i (some v)) h1
section
variable {X : Cx} {pos : Pos}
theorem ls_asg {tg e : Expr} {te : LT} {p : Pat} (he : LE X e te) (hg : LG X tg p) (hs : swapsWithSole [tg] e pos.line X.env = pure false := by rfl) (hw : swappedStores [tg] e X.env = pure none := by rfl)
    (h1 : (assignEach [tg] X.env).map (·.2) = [assign tg X.env] := by rfl) : LSt X (.Assign [tg] e pos) (di te p) :=
  ⟨PS.imp (ps_asg he.pe hg.pg hs hw h1) fun D σ H ⟨m, env, h, P, at_, t1, k⟩ => ⟨m, env, h, _, at_, t1, fun v h1 p1 m1 H1 x E1 R1 r1 => by
    obtain ⟨env', σ', q, f, R', _, _⟩ := rE R1 (at_.nm.ex E1) r1 p1
    exact f _ (k.nx _ _ q m1 H1 σ' E1 ⟨R1, R'⟩)⟩⟩
theorem dR (i : Nat) {x : Str} {e : Expr} {te : LT} {pos' : Pos} (hN : X.N.Nodup) (he : LE X e te) (hi : X.N[i]? = some x := by rfl) (hx : Loc X.env.scope x := by first | exact Or.inl rfl | exact Or.inr rfl) (hs : swapsWith e (some (.Name x pos')) pos.line X.env = pure false := by rfl)
    (hf : X.fn x = true ∨ X.env.scope.names.lookup x = some .local := by first | exact .inl rfl | exact .inr rfl) : LSt X (.Assign [.Name x pos'] e pos) (aU te i) :=
  ⟨PS.imp (ps_set hN hi hx he.pe hs hf) fun D σ H ⟨m, env, h, P, at_, t1, k⟩ => ⟨m, env, h, _, at_, t1, fun v h1 p1 m1 H1 x E1 R1 r1 => k.nx _ _ p1 m1 H1 _ E1 ⟨R1, (at_.nm.ex E1).set r1 i⟩⟩⟩
def fQ (i j : Nat) (ta : LA) : LS := fun D env h => ta env h fun vs h1 => match vs with
  | [v, w] => D.nx ((env.set i (some v)).set j (some w)) h1
  | _ => False
def setE (o i v : EV) (h : EH) (P : EH → Prop) : Prop := match o, i with
  | .ref r, .int k => match h[r]? with
    | some (.lst xs) => match ixN xs.length k with
      | some j => P (h.set r (.lst (xs.set j v)))
      | none => False
    | _ => False
  | _, _ => False
theorem set_sim {K : PySem.W.Frag} {m : Nat → Addr} {h : EH} {H : Hp} {o i v : EV} {x y z : V} {P : EH → Prop} {Q : Hp → Prop} (R : dD K m h H) (rx : az K m h.length H o x) (ry : az K m h.length H i y) (rz : az K m h.length H v z) (q : setE o i v h P)
    (k : ∀ h', P h' → ∀ H', Ex K m h.length H m h'.length H' → dD K m h' H' → Q H') : rSetL x y z H Q := by
  unfold setE at q
  split at q
  · rw [az] at rx
    rw [az] at ry
    obtain ⟨_, rfl⟩ := rx
    subst ry
    split at q
    · rename_i ls e
      obtain ⟨vs, a, r⟩ := R.obj _ _ e
      split at q
      · rename_i j ej
        refine ⟨_, vs, _, j, rfl, rfl, a, by rw [← r.length]; exact ej, ?_⟩
        have E := Ex.write (o := .lst (vs.set j z)) (e' := EO.lst (List.set ls j v)) R e
        exact k _ q _ E (R.write e ⟨_, upd_same, aG.set (az.ex E _ _ rz) j (aG.ex E _ _ r)⟩)
      · exact q.elim
    · exact q.elim
  · exact q.elim
def cR (to ti te : LT) : LS := fun D env h => te env h fun v h1 => to env h1 fun o h2 => ti env h2 fun i h3 => setE o i v h3 fun h4 => D.nx env h4
def getE (v w : EV) (h : EH) (P : EV → Prop) : Prop := match v, w with
  | .ref r, .int i => match h[r]? with
    | some (.lst xs) => 0 ≤ i ∧ match xs[i.toNat]? with
      | some x => P x
      | none => False
    | _ => False
  | _, _ => False
def cG (f : Int → Int → Int) (to ti te : LT) : LS := fun D env h => to env h fun o h1 => ti env h1 fun i h2 => getE o i h2 fun x => te env h2 fun y h4 => match x, y with
  | .int a, .int b => setE o i (.int (f a b)) h4 fun h5 => D.nx env h5
  | _, _ => False
def rGetN (K : PySem.W.Frag) : R2 := fun o i H Q => ∃ (p : Addr) (xs : List V) (k : Int) (x : V), o = .ref p ∧ i = .int k ∧ SqL K H p xs ∧ 0 ≤ k ∧ xs[k.toNat]? = some x ∧ Q x H
theorem pget_list : PGet X (rGetN X.K) := by
  intro pins s σ H o i ov iv Q I ro ri q
  obtain ⟨p, xs, k, x, rfl, rfl, hq, h0, hx, q⟩ := q
  cases ro
  obtain ⟨t, rfl⟩ := ri
  obtain ⟨its, rv, pl, hz⟩ := I.list hq
  obtain ⟨u, hu, ru⟩ := rv.get hx
  have hlt := (List.getElem?_eq_some_iff.mp hx).1
  have hs : sizeLine = 16777216 := by decide
  exact wpAny_getItem_list pl.isList h0 (by omega) (by simpa using hu) ⟨x, H, I, ru, q⟩
theorem ls_augS {o i e : Expr} {to ti te : LT} {op : Operator} {f : Int → Int → Int} {tpos : Pos} (hp : PIp X op (ipI f)) (ho : LE X o to) (hi : LE X i ti) (he : LE X e te)
    (ha : ∀ ov iv new, augStore i ov iv new = (do holding [new, ov, iv] (setItem ov iv new); release [new, ov, iv] []; pure .next) := by intros; rfl) : LSt X (.AugAssign (.Subscript o i tpos) op e pos) (cG f to ti te) := by
  refine ⟨PS.imp (ps_augS ho.pe hi.pe pget_list he.pe hp set_list ha) fun D σ H ⟨m, env, h, P, at_, t1, k⟩ => ⟨m, env, h, _, at_, t1, fun o h1 p1 m1 H1 x E1 R1 r1 => ⟨m1, env, h1, _, at_.ex E1 R1, p1, fun i h2 p2 m2 H2 y E2 R2 r2 => ?_⟩⟩⟩
  have ro2 := az.ex E2 _ _ r1
  unfold getE at p2
  split at p2
  · have ro := ro2
    have ri := r2
    rw [az] at ro
    rw [az] at ri
    obtain ⟨_, e1⟩ := ro
    split at p2
    · rename_i ls e
      obtain ⟨vs, a, r⟩ := R2.obj _ _ e
      obtain ⟨h0, p2⟩ := p2
      split at p2
      · rename_i w ew
        obtain ⟨u, hu, ru⟩ := r.at ew
        refine ⟨_, vs, _, u, e1, ri, SqL.of a, h0, hu, m2, env, h2, _, (at_.ex E1 R1).ex E2 R2, p2, fun v h3 p3 m3 H3 z E3 R3 r3 => ?_⟩
        have ru3 := az.ex E3 _ _ ru
        split at p3
        · rw [az] at ru3
          rw [az] at r3
          refine ⟨_, _, ru3, r3, ?_⟩
          exact set_sim R3 (az.ex E3 _ _ ro2) (az.ex E3 _ _ r2) (by rw [az]) p3 fun h4 p4 H4 E4 R4 => k.nx _ _ p4 m3 H4 σ (((E1.trans E2).trans E3).trans E4) ((((at_.ex E1 R1).ex E2 R2).ex E3 R3).ex E4 R4)
        · exact p3.elim
      · exact p2.elim
    · exact p2.elim
  · exact p2.elim
end
abbrev LI := En → EH → ((EH → Prop) → List EV → EH → Prop) → Prop
def SimIt (K : PySem.W.Frag) (m : Nat → Addr) (n : Nat) (H : Hp) (J : It) (g : EH → Prop) (xs : List EV) : Prop :=
  ∀ (i : Nat) (h' : EH) (m' : Nat → Addr) (H' : Hp), Ex K m n H m' h'.length H' → dD K m' h' H' → g h' →
    (∀ x, xs[i]? = some x → J.go i H' ∧ ∀ v H2, J.yld i H' v H2 → Ex K m' h'.length H' m' h'.length H2 ∧ dD K m' h' H2 ∧ az K m' h'.length H2 x v) ∧ (xs.length = i → J.stop i H')
def upI (K : PySem.W.Frag) (t : LI) : TI := fun σ H R => ∃ m env h P, At K env h m σ H ∧ t env h P ∧
  ∀ g xs h', P g xs h' → ∀ (m' : Nat → Addr) (H' : Hp) (J : It), Ex K m h.length H m' h'.length H' → dD K m' h' H' → SimIt K m' h'.length H' J g xs → R J H'
structure LIt (X : Cx) (tg iter : Expr) (t : LI) : Prop where
  pi : PI X tg iter (upI X.K t)
def lTrue : EH → Prop := fun _ => True
def loopE (g : EH → Prop) (p : Pat) (tb : LS) (D : LEnds) : List EV → En → EH → Prop
  | [], env, h => g h ∧ D.nx env h
  | x :: xs, env, h => g h ∧ cH h p x env fun env2 => tb { D with nx := loopE g p tb D xs, ct := loopE g p tb D xs, bk := D.nx } env2 h
def bW (ti : LI) (p : Pat) (tb : LS) : LS := fun D env h => ti env h fun g xs h1 => loopE g p tb D xs env h1
section
variable {X : Cx} {pos : Pos}
theorem kY {tg iter : Expr} {body : List Stmt} {ti : LI} {p : Pat} {tb : LS} (hp : PassesOwn (model X.prog X.w) X.A X.env X.xe) (hc : X.calm = true) (hi : LIt X tg iter ti) (hg : LG X tg p) (hb : LSs X body tb)
    (hs : ∀ x, foldedSetIterable iter X.env x = pure x := by intro _; rfl) : LSt X (.For tg iter body [] pos) (bW ti p tb) := by
  refine ⟨PS.imp (ps_for hp hc hi.pi hg.pg hb.pss hs) fun D σ H ⟨m, env, h, P, at_, t1, k⟩ => ⟨m, env, h, _, at_, t1, fun g xs h1 p1 m1 H1 J E1 R1 sim => ?_⟩⟩
  refine ⟨fun i c σ' H' => c = xs.length - i ∧ i ≤ xs.length ∧ ∃ m2 env2 h2, Ex X.K m1 h1.length H1 m2 h2.length H' ∧ At X.K env2 h2 m2 σ' H' ∧ loopE g p tb P (xs.drop i) env2 h2, ⟨xs.length, by simp, Nat.zero_le _, m1, env, h1, .refl, at_.ex E1 R1, by simpa using p1⟩, ?_⟩
  rintro i c σ' H' ⟨rfl, hi, m2, env2, h2, E2, a2, q⟩
  by_cases hlt : i < xs.length
  · have ed : xs.drop i = xs[i] :: xs.drop (i + 1) := List.drop_eq_getElem_cons hlt
    rw [ed, loopE] at q
    obtain ⟨qg, q⟩ := q
    obtain ⟨s1, s2⟩ := sim i h2 m2 H' E2 a2.hp qg
    obtain ⟨go, yl⟩ := s1 xs[i] (List.getElem?_eq_getElem hlt)
    refine .inr ⟨go, fun σ3 H3 => ∃ m3 env3 h3, Ex X.K m1 h1.length H1 m3 h3.length H3 ∧ At X.K env3 h3 m3 σ3 H3 ∧ loopE g p tb P (xs.drop (i + 1)) env3 h3, fun σ3 H3 ⟨m3, env3, h3, E3, a3, q3⟩ => ⟨xs.length - (i + 1), by omega, rfl, hlt, m3, env3, h3, E3, a3, q3⟩, fun v H3 y => ?_⟩
    obtain ⟨E3, R3, r3⟩ := yl v H3 y
    obtain ⟨env4, σ4, q4, f, R4, _, _⟩ := rE R3 (a2.nm.ex E3) r3 q
    refine f _ ⟨m2, env4, h2, _, ⟨R3, R4⟩, q4, ?_⟩
    have E13 := E2.trans E3
    have k13 := k.ex (E1.trans E13)
    exact ⟨fun e5 h5 p5 m5 H5 σ5 E5 a5 => ⟨m5, e5, h5, E13.trans E5, a5, p5⟩, k13.rt, k13.nx, fun e5 h5 p5 m5 H5 σ5 E5 a5 => ⟨m5, e5, h5, E13.trans E5, a5, p5⟩⟩
  · have e : i = xs.length := by omega
    subst e
    rw [List.drop_length, loopE] at q
    obtain ⟨_, s2⟩ := sim xs.length h2 m2 H' E2 a2.hp q.1
    exact .inl ⟨s2 rfl, k.nx _ _ q.2 m2 H' σ' (E1.trans E2) a2⟩
def lIt (t : LT) : LI := fun env h P => t env h fun v h1 => match v with
  | .ref r => match h1[r]? with
    | some (.lst xs) => P (fun h' => h'[r]? = some (.lst xs)) xs h1
    | some (.frz xs) => P (fun h' => h'[r]? = some (.frz xs)) xs h1
    | _ => False
  | .tup xs => P lTrue xs h1
  | .ktup xs => P lTrue xs h1
  | .str s => P lTrue (s.map fun c => .str [c]) h1
  | _ => False
def iAny (K : PySem.W.Frag) (te : TE) : TI := fun σ H R => te σ H fun x H1 => (∃ a, x = .ref a ∧ (∃ xs, SqL K H1 a xs) ∧ R (Itl K a) H1) ∨ (∃ a, x = .ref a ∧ (∃ xs, SqT K H1 a xs) ∧ R (Itt K a) H1) ∨ ∃ z, x = .str z ∧ R (Its z) H1
theorem pi_any {tg e : Expr} {te : TE} (he : PE X e te) : PI X tg e (iAny X.K te) := by
  refine ⟨fun pins s σ H R I h => thn (he.run pins s σ H _ I h) fun v s1 ⟨x, H1, I1, r1, q⟩ => ?_⟩
  rcases q with ⟨a, rfl, ⟨xs, hq⟩, q⟩ | ⟨a, rfl, ⟨xs, hq⟩, q⟩ | ⟨z, rfl, q⟩
  · cases r1
    obtain ⟨its, rv, p, hz⟩ := I1.list hq
    exact wpAny_pyIter_list p.isList (pi_one (tk := s1.toks) I1 _ (turn_list a _) ⟨_, Heap.get?_push_size _ rfl, rfl, rfl⟩ q)
  · cases r1
    obtain ⟨its, rv, p, hz⟩ := I1.tuple hq
    exact wpAny_pyIter_tuple (show s1.heap.IsTuple a its.toArray from p) (pi_one (tk := s1.toks) I1 _ (turn_tuple a _) ⟨_, Heap.get?_push_size _ rfl, rfl, rfl⟩ q)
  · obtain ⟨t, rfl⟩ := r1
    cases ha : z.cps.all (· < 128)
    · exact wpAny_pyIter_wide ha (pi_one (tk := s1.toks) I1 _ (turn_str _ z t "str_iterator" (.inr rfl)) ⟨_, Heap.get?_push_size _ rfl, rfl, rfl⟩ q)
    · exact wpAny_pyIter_ascii ha (pi_one (tk := s1.toks) I1 _ (turn_str _ z t "str_ascii_iterator" (.inl rfl)) ⟨_, Heap.get?_push_size _ rfl, rfl, rfl⟩ q)
theorem SimIt.lst {K : PySem.W.Frag} {m : Nat → Addr} {n r : Nat} {H : Hp} {xs : List EV} {g : EH → Prop} (hr : r < n)
    (hh : ∀ h' m' H', Ex K m n H m' h'.length H' → dD K m' h' H' → g h' → ∃ us, SqL K H' (m' r) us ∧ aG K m' h'.length H' xs us) : SimIt K m n H (Itl K (m r)) g xs := by
  intro i h' m' H' E' R' gh
  obtain ⟨us, s1, r1⟩ := hh h' m' H' E' R' gh
  rw [E'.eq r hr] at s1
  refine ⟨fun x hx => ?_, fun hi => ⟨us, s1, by rw [← r1.length]; exact Nat.le_of_eq hi⟩⟩
  obtain ⟨u, hu, ru⟩ := r1.at hx
  refine ⟨⟨us, u, s1, hu⟩, fun v H2 ⟨e, y⟩ => ?_⟩
  subst e
  have := y us s1
  rw [hu] at this
  cases this
  exact ⟨.refl, R', ru⟩
theorem eU {tg e : Expr} {t : LT} (he : LE X e t) : LIt X tg e (lIt t) := by
  refine ⟨PI.imp (pi_any he.pe) fun σ H R ⟨m, env, h, P, at_, t1, k⟩ => ⟨m, env, h, _, at_, t1, fun v h1 p1 m1 H1 x E1 R1 r1 => ?_⟩⟩
  split at p1
  · rename_i r
    rw [az] at r1
    obtain ⟨hr, rfl⟩ := r1
    split at p1
    · rename_i xs e
      obtain ⟨vs, a, r2⟩ := R1.obj _ _ e
      refine .inl ⟨_, rfl, ⟨vs, SqL.of a⟩, k _ xs h1 p1 m1 H1 _ E1 R1 (SimIt.lst hr fun h' m' H' E' R' gh => ?_)⟩
      obtain ⟨us, a', r'⟩ := R'.obj _ _ gh
      exact ⟨us, SqL.of a', r'⟩
    · rename_i xs e
      obtain ⟨vs, a, r2⟩ := R1.obj _ _ e
      refine .inl ⟨_, rfl, ⟨vs, a.sql⟩, k _ xs h1 p1 m1 H1 _ E1 R1 (SimIt.lst hr fun h' m' H' E' R' gh => ?_)⟩
      obtain ⟨us, a', r'⟩ := R'.obj _ _ gh
      exact ⟨us, a'.sql, r'⟩
    · exact p1.elim
  · rename_i xs
    rw [az] at r1
    obtain ⟨a, vs, rfl, hs, r2⟩ := r1
    refine .inr (.inl ⟨_, rfl, ⟨vs, SqT.of hs⟩, k _ xs h1 p1 m1 H1 _ E1 R1 fun i h' m' H' E' R' _ => ?_⟩)
    have hs' := E'.tup _ _ (SqT.of hs)
    have r' := aG.ex E' _ _ r2
    refine ⟨fun x hx => ?_, fun hi => ⟨vs, hs', by rw [← r'.length]; exact Nat.le_of_eq hi⟩⟩
    obtain ⟨u, hu, ru⟩ := r'.at hx
    refine ⟨⟨vs, u, hs', hu⟩, fun v H2 ⟨e, y⟩ => ?_⟩
    subst e
    have := y vs hs'
    rw [hu] at this
    cases this
    exact ⟨.refl, R', ru⟩
  · rename_i xs
    rw [az] at r1
    obtain ⟨a, vs, rfl, hs, r2⟩ := r1
    refine .inr (.inl ⟨_, rfl, ⟨vs, hs⟩, k _ xs h1 p1 m1 H1 _ E1 R1 fun i h' m' H' E' R' _ => ?_⟩)
    have hs' := E'.tup _ _ hs
    have r' := aG.ex E' _ _ r2
    refine ⟨fun x hx => ?_, fun hi => ⟨vs, hs', by rw [← r'.length]; exact Nat.le_of_eq hi⟩⟩
    obtain ⟨u, hu, ru⟩ := r'.at hx
    refine ⟨⟨vs, u, hs', hu⟩, fun v H2 ⟨e, y⟩ => ?_⟩
    subst e
    have := y vs hs'
    rw [hu] at this
    cases this
    exact ⟨.refl, R', ru⟩
  · rename_i s
    rw [az] at r1
    subst r1
    refine .inr (.inr ⟨_, rfl, k _ _ h1 p1 m1 H1 _ E1 R1 fun i h' m' H' E' R' _ => ?_⟩)
    refine ⟨fun x hx => ?_, fun hi => ?_⟩
    · rw [List.getElem?_map] at hx
      obtain ⟨c, hc, rfl⟩ := Option.map_eq_some_iff.mp hx
      have hl := (List.getElem?_eq_some_iff.mp hc).1
      refine ⟨by show i < s.toArray.size; simpa using hl, fun v H2 ⟨e, c', hc', y⟩ => ?_⟩
      subst e y
      have e2 : s[i]? = some c' := by simpa using hc'
      rw [hc] at e2
      cases e2
      exact ⟨.refl, R', by rw [az]⟩
    · show s.toArray.size ≤ i
      simpa using Nat.le_of_eq hi
  · exact p1.elim
def eZ (lo : Int) (n : Nat) : List EV := (List.range n).map fun (i : Nat) => EV.int (lo + i)
def bx (ta : LA) : LI := fun env h P => ta env h fun vs h1 => match vs with
  | [.int j] => (-(2 ^ 62) ≤ j ∧ j < 2 ^ 62) ∧ P lTrue (eZ 0 j.toNat) h1
  | _ => False
def bD (ta : LA) : LI := fun env h P => ta env h fun vs h1 => match vs with
  | [.int i, .int j] => (-(2 ^ 62) ≤ i ∧ i < 2 ^ 62 ∧ -(2 ^ 62) ≤ j ∧ j < 2 ^ 62) ∧ P lTrue (eZ i (j - i).toNat) h1
  | _ => False
theorem SimIt.rng {K : PySem.W.Frag} {m : Nat → Addr} {n : Nat} {H : Hp} {lo : Int} {k : Nat} {g : EH → Prop} : SimIt K m n H (Itr lo k) g (eZ lo k) := by
  intro i h' m' H' E' R' gh
  unfold eZ
  refine ⟨fun x hx => ?_, fun hi => by show k ≤ i; simpa using Nat.le_of_eq hi⟩
  rw [List.getElem?_map] at hx
  obtain ⟨j, hj, rfl⟩ := Option.map_eq_some_iff.mp hx
  obtain ⟨hl, e⟩ := List.getElem?_eq_some_iff.mp hj
  rw [List.length_range] at hl
  rw [List.getElem_range] at e
  subst e
  refine ⟨hl, fun v H2 ⟨e1, e2⟩ => ?_⟩
  subst e1 e2
  exact ⟨.refl, R', by rw [az]⟩
theorem gQ {tg a : Expr} {ta : LA} {p pos : Pos} (hg : Gl X "range") (hm : X.mg "range" = none) (ha : LAs X [a] ta) (hs : starEach [a] X.env = [(false, eval a X.env)] := by rfl) : LIt X tg (.Call (.Name "range" p) [a] [] pos) (bx ta) := by
  refine ⟨PI.imp (pi_range1 hg hm ha.pa hs) fun σ H R ⟨m, env, h, P, at_, t1, k⟩ => ⟨m, env, h, _, at_, t1, fun vs h1 p1 m1 H1 xs E1 R1 r1 => ?_⟩⟩
  split at p1
  · obtain ⟨v, rfl, r2⟩ := r1.one_inv
    rw [az] at r2
    subst r2
    exact ⟨_, rfl, p1.1.1, p1.1.2, k _ _ h1 p1.2 m1 H1 _ E1 R1 SimIt.rng⟩
  · exact p1.elim
theorem lX {tg a b : Expr} {ta : LA} {p pos : Pos} (hg : Gl X "range") (hm : X.mg "range" = none) (ha : LAs X [a, b] ta) (hs : starEach [a, b] X.env = [(false, eval a X.env), (false, eval b X.env)] := by rfl) (hs2 : starEach [b] X.env = [(false, eval b X.env)] := by rfl) :
    LIt X tg (.Call (.Name "range" p) [a, b] [] pos) (bD ta) := by
  refine ⟨PI.imp (pi_range2 hg hm ha.pa hs hs2) fun σ H R ⟨m, env, h, P, at_, t1, k⟩ => ⟨m, env, h, _, at_, t1, fun vs h1 p1 m1 H1 xs E1 R1 r1 => ?_⟩⟩
  split at p1
  · obtain ⟨v, w, rfl, r2, r3⟩ := r1.two_inv
    rw [az] at r2
    rw [az] at r3
    subst r2 r3
    exact ⟨_, _, rfl, p1.1, k _ _ h1 p1.2 m1 H1 _ E1 R1 SimIt.rng⟩
  · exact p1.elim
def aZ (env : En) : List Nat → En
  | [] => env
  | v :: vs => (aZ env vs).set v none
theorem RelN.wipe {K : PySem.W.Frag} {m : Nat → Addr} {n : Nat} {H : Hp} {env : En} {σ : L2.St} (R : RelN K m n H env σ) : ∀ vs, RelN K m n H (aZ env vs) (wipe σ vs)
  | [] => R
  | v :: vs => by
    have r := RelN.wipe R vs
    unfold aZ L2.wipe
    refine ⟨by simpa using r.1, fun j w hj => ?_⟩
    by_cases e : v = j
    · subst e
      have hl : v < (aZ env vs).length := by
        have := (List.getElem?_eq_some_iff.mp hj).1
        simpa using this
      rw [List.getElem?_set_self hl] at hj
      cases hj
    · rw [List.getElem?_set_ne e] at hj ⊢
      exact r.2 j w hj
theorem wipe_at (σ : L2.St) : ∀ (vs : List Nat) (i : Nat), (wipe σ vs)[i]? = if i ∈ vs then (σ[i]?).map (fun _ => none) else σ[i]?
  | [], i => by simp [L2.wipe]
  | v :: vs, i => by
    unfold L2.wipe
    rw [List.getElem?_set, wipe_at σ vs i, wipe_length]
    by_cases e : v = i
    · subst e
      by_cases hl : v < σ.length
      · simp [hl]
      · simp [hl]
    · have : ¬ i = v := fun z => e z.symm
      simp [e, this]
theorem wipe_back {σ σ' : L2.St} {vs ss : List Nat} (h : ∀ i, i ∉ ss → σ'[i]? = (wipe σ vs)[i]?) (hs : ∀ i ∈ ss, i ∈ vs) (hl : σ'.length = σ.length) : wipe σ' vs = wipe σ vs := by
  refine List.ext_getElem? fun i => ?_
  rw [wipe_at, wipe_at]
  by_cases hv : i ∈ vs
  · rw [if_pos hv, if_pos hv]
    by_cases hi : i < σ.length
    · rw [List.getElem?_eq_getElem hi, List.getElem?_eq_getElem (by omega)]; rfl
    · rw [List.getElem?_eq_none (by omega), List.getElem?_eq_none (by omega)]
  · rw [if_neg hv, if_neg hv, h i fun z => hv (hs i z), wipe_at, if_neg hv]
structure LTs (X : Cx) (ifs : List Expr) (t : LTt) : Prop where
  pts : PTs X ifs (upT X.K t)
def cY : LTt := fun _ h P => P true h
theorem PTs.imp {e : List Expr} {t t' : TT} (h : PTs X e t) (i : ∀ σ H Q, t' σ H Q → t σ H Q) : PTs X e t' := ⟨fun pins s σ H Q I q => h.run pins s σ H Q I (i σ H Q q)⟩
theorem fO : LTs X [] cY := ⟨PTs.imp pts_nil fun σ H Q ⟨m, env, h, P, at_, t1, k⟩ => k _ _ t1 m H .refl at_.hp⟩
theorem lts_one {c : Expr} {t : LTt} (h : LTe X c t) : LTs X [c] t := ⟨pts_one h.pt⟩
def lcE (g : EH → Prop) (p : Pat) (tt : LTt) (te : LT) (d : Nat) (env : En) (P : EK) : List EV → EH → Prop
  | [], h => g h ∧ P (.ref d) h
  | x :: xs, h => g h ∧ cH h p x env fun env2 => tt env2 h fun b h3 => if b = true then te env2 h3 fun y h4 => match h4[d]? with
      | some (.lst acc) => acc.length < sizeLine ∧ lcE g p tt te d env P xs (h4.set d (.lst (acc ++ [y])))
      | _ => False
    else lcE g p tt te d env P xs h3
def lLc (ti : LI) (p : Pat) (tt : LTt) (te : LT) (vs : List Nat) : LT := fun env h P => ti env h fun g xs h1 => lcE g p tt te h1.length (aZ env vs) P xs (h1 ++ [.lst []])
theorem qb {elt tg iter : Expr} {ifs : List Expr} {scope : Scope} (own : List (Str × Nat)) {ti : LI} {p : Pat} {tt : LTt} {te : LT} (hc : X.calm = true) (hN : X.N.Nodup) (hi : LIt X tg iter ti) (ok : BlkOk X.N X.env.scope scope own)
    (hp : ∀ i ∈ Pat.slots p, i ∈ own.map (·.2))
    (hg : ∀ (s : Shared) (H : Hp) (C : Addr) (cl : List (Str × Addr)) (fp : List Addr), LG (X.blk s H scope (compEnvC scope cl C X.env) fp) tg p)
    (ht : ∀ (s : Shared) (H : Hp) (C : Addr) (cl : List (Str × Addr)) (fp : List Addr), LTs (X.blk s H scope (compEnvC scope cl C X.env) fp) ifs tt)
    (he : ∀ (s : Shared) (H : Hp) (C : Addr) (cl : List (Str × Addr)) (fp : List Addr), LE (X.blk s H scope (compEnvC scope cl C X.env) fp) elt te) (hs : ∀ x, foldedSetIterable iter X.env x = pure x := by intro _; rfl) :
    LE X (.ListComp elt [⟨tg, iter, ifs, 0⟩] scope pos) (lLc ti p tt te (own.map (·.2))) := by
  refine ⟨PE.imp (pe_lc (g := gP X.K p) (tt := upT X.K tt) (te := up X.K te) hc hN hi.pi ok (fun s H C cl fp => (hg s H C cl fp).pg) (fun s H C cl fp => (ht s H C cl fp).pts) (fun s H C cl fp => (he s H C cl fp).pe) hs) fun σ H Q ⟨m, env, h, P, at_, t1, k⟩ => ⟨m, env, h, _, at_, t1, fun g xs h1 p1 m1 H1 J E1 R1 sim D hD => ?_⟩⟩
  have E2 : Ex X.K m1 h1.length H1 (mput m1 h1.length D) (h1 ++ [EO.lst []]).length (upd H1 D (.lst [])) := Ex.new hD
  have R2 : dD X.K (mput m1 h1.length D) (h1 ++ [EO.lst []]) (upd H1 D (.lst [])) := R1.new hD ⟨[], upd_same, .nil⟩
  refine ⟨fun i c H' => c = xs.length - i ∧ i ≤ xs.length ∧ ∃ m2 h2, Ex X.K m1 h1.length H1 m2 h2.length H' ∧ dD X.K m2 h2 H' ∧ m2 h1.length = D ∧ h1.length < h2.length ∧ lcE g p tt te h1.length (aZ env (own.map (·.2))) P (xs.drop i) h2,
    ⟨xs.length, by simp, Nat.zero_le _, _, _, E2, R2, lU, by simp, by simpa using p1⟩, ?_⟩
  rintro i c H' ⟨rfl, hi, m2, h2, E3, R3, eD, lD, q⟩
  by_cases hlt : i < xs.length
  · have ed : xs.drop i = xs[i] :: xs.drop (i + 1) := List.drop_eq_getElem_cons hlt
    rw [ed, lcE] at q
    obtain ⟨qg, q⟩ := q
    obtain ⟨s1, s2⟩ := sim i h2 m2 H' E3 R3 qg
    obtain ⟨go, yl⟩ := s1 xs[i] (List.getElem?_eq_getElem hlt)
    refine .inr ⟨go, fun H4 => ∃ m4 h4, Ex X.K m1 h1.length H1 m4 h4.length H4 ∧ dD X.K m4 h4 H4 ∧ m4 h1.length = D ∧ h1.length < h4.length ∧ lcE g p tt te h1.length (aZ env (own.map (·.2))) P (xs.drop (i + 1)) h4,
      fun H4 q4 => ⟨xs.length - (i + 1), by omega, rfl, hlt, q4⟩, fun v H4 y => ?_⟩
    obtain ⟨E4, R4, r4⟩ := yl v H4 y
    have E14 := (E1.trans E3).trans E4
    obtain ⟨env5, σ5, q5, f, N5, keep, len⟩ := rE R4 ((at_.nm.ex E14).wipe (own.map (·.2))) r4 q
    refine f _ ⟨wipe_back (ss := Pat.slots p) keep hp (by rw [len, wipe_length]), m2, env5, h2, _, ⟨R4, N5⟩, q5, fun b h6 p6 m6 H6 E6 R6 => ?_⟩
    have E16 := (E3.trans E4).trans E6
    have lt2 := E6.le
    have eD6 : m6 h1.length = D := (E6.eq _ lD).trans eD
    cases b with
    | false =>
      dsimp only
      rw [if_neg Bool.false_ne_true] at p6 ⊢
      exact ⟨m6, h6, E16, R6, eD6, by omega, p6⟩
    | true =>
      dsimp only
      rw [if_pos rfl] at p6 ⊢
      refine ⟨m6, env5, h6, _, ⟨R6, N5.ex E6⟩, p6, fun w h7 p7 m7 H7 y7 E7 R7 r7 => ?_⟩
      have lt7 := E7.le
      have eD7 : m7 h1.length = D := (E7.eq _ (by omega)).trans eD6
      split at p7
      · rename_i acc e7
        obtain ⟨vs, a, r⟩ := R7.obj _ _ e7
        rw [eD7] at a
        refine ⟨vs, a, by rw [← r.length]; exact p7.1, ?_⟩
        have E8 := Ex.write (o := .lst (vs ++ [y7])) (e' := EO.lst (acc ++ [w])) R7 e7
        have R8 := R7.write (o := .lst (vs ++ [y7])) (e' := EO.lst (acc ++ [w])) e7 ⟨_, upd_same, (aG.ex E8 _ _ r).app (.one (az.ex E8 _ _ r7))⟩
        rw [eD7] at E8 R8
        exact ⟨m7, _, (E16.trans E7).trans E8, R8, eD7, by simp; omega, p7.2⟩
      · exact p7.elim
  · have e : i = xs.length := by omega
    subst e
    rw [List.drop_length, lcE] at q
    obtain ⟨_, s2⟩ := sim xs.length h2 m2 H' E3 R3 q.1
    refine .inl ⟨s2 rfl, k _ _ q.2 m2 H' _ (E1.trans E3) R3 (by rw [az]; exact ⟨lD, by rw [eD]⟩)⟩
end
end Y
namespace Y
open PySem PySem.Spec PyProof.Rows L2
abbrev LSp := List EV → EH → EK → Prop
def upSp (K : PySem.W.Frag) (sp : LSp) : List V → Hp → VK → Prop := fun vs H Q => ∃ m h evs P, dD K m h H ∧ aG K m h.length H evs vs ∧ sp evs h P ∧ Kon K m h.length H P Q
structure FnG (P : Program) (w : World) (K : PySem.W.Frag) (mg : Str → Option Value) (base : Heap) (k : Nat) (f : Addr) (fd : FuncData) (ps : List Str) (sp : LSp) : Prop where
  len : ∀ evs h Q, sp evs h Q → evs.length = ps.length
  run : ∀ (A : Around) (outer : List Env) (s : Shared) (H : Hp) (args : Args) (us : List Value) (vs : List V) (Q : VK), Room k A → A.guards = some [] → Env0 P w K mg base A outer s H →
    BindsTo s fd args (ps.zip us) → Vals vs us → upSp K sp vs H Q → codeAny (model P w) A (.call (.ref f) args) (CR CX0 outer P w H s Q E0) s
def aA (sp : LSp) (t : LA) : LT := fun env h P => t env h fun vs h1 => sp vs h1 P
section
variable {X : Cx} {k : Nat} {f : Addr} {fd : FuncData} {ps : List Str} {sp : LSp} {x : Str} {p pos : Pos} {e : Expr} {es : List Expr} {t : LA}
theorem upSp.len {K : PySem.W.Frag} {vs : List V} {H : Hp} {Q : VK} {n : Nat} (l : ∀ evs h Q, sp evs h Q → evs.length = n) (q : upSp K sp vs H Q) : vs.length = n := by
  obtain ⟨m, h, evs, P, R, r, s, _⟩ := q
  rw [← r.length]
  exact l _ _ _ s
theorem runG {pins : List (Addr × Obj)} {σ : L2.St} {H : Hp} {s : Shared} {Q : VK} {us : List Value} {vs : List V} (F : FnG X.prog X.w X.K X.mg X.base k f fd ps sp) (hr : Room k X.A) (hG : X.A.guards = some [])
    (hb : Binds X.K fd ps []) (I : Inv X pins σ H s) (r : Vals vs us) (q : upSp X.K sp vs H Q) : wpAny (model X.prog X.w) X.A (call (.ref f) us) (EP X pins σ Q) X.xe s := by
  have hl : us.length = ps.length := r.length.symm.trans (upSp.len F.len q)
  have b := hb s us I.kIn (by simpa using hl)
  rw [List.append_nil] at b
  refine wpAny_call (codeAny_mono (F.run X.A X.stack s H _ us vs Q hr hG I.env0 b r q) fun o s' ho => ?_)
  match o, ho with
  | .error _, ho => exact ho.elim
  | .ok (.ret u), ho => exact I.after ho
  | .ok .next, ho => exact ho.elim
  | .ok .brk, ho => exact ho.elim
  | .ok .cont, ho => exact ho.elim
theorem up_call {K : PySem.W.Frag} (σ : L2.St) (H : Hp) (Q : VK) (q : up K (aA sp t) σ H Q) : upA K t σ H fun vs H1 => upSp K sp vs H1 Q := by
  obtain ⟨m, env, h, P, at_, t1, k⟩ := q
  exact ⟨m, env, h, _, at_, t1, fun vs h1 p1 m1 H1 xs E1 R1 r1 => ⟨m1, h1, vs, P, R1, r1, p1, k.ex E1⟩⟩
theorem aK (F : FnG X.prog X.w X.K X.mg X.base k f fd ps sp) (hr : Room k X.A) (hG : X.A.guards = some []) (hg : Gl X x) (hm : X.mg x = some (.ref f)) (hk : PySem.W.keepIn X.K (.ref f) = true) (hb : Binds X.K fd ps [])
    (ha : LAs X (e :: es) t) (hdb : (x == ("__debug__" : Str)) = false := by decide) (he : starEach (e :: es) X.env = (false, eval e X.env) :: starEach es X.env := by rfl) (hpl : (backTo pos (starEach es X.env)).any (·.1) = false := by rfl) :
    LE X (.Call (.Name x p) (e :: es) [] pos) (aA sp t) :=
  ⟨⟨fun pins s σ H Q I q => wpAny_Call_Name_kw (ld_glob I hg hm (PySem.W.callWith_K (h₀ := X.base) I.ok.mod.kin hk (thn (ha.pa.run pos pins s σ H _ I (up_call σ H Q q)) fun us s1 ⟨vs, H1, I1, r, q1⟩ =>
    ⟨I1.kIn, runG F hr hG hb I1 r q1⟩) he hpl) hdb)⟩⟩
end
def bF (N : List Str) (vs : List EV) : En := vs.map some ++ List.replicate (N.length - vs.length) none
theorem start_rel {K : PySem.W.Frag} {m : Nat → Addr} {n : Nat} {H : Hp} (N : List Str) {evs : List EV} {vs : List V} (r : aG K m n H evs vs) : RelN K m n H (bF N evs) (start N vs) := by
  have l := r.length
  unfold bF L2.start
  refine ⟨by simp [l], fun i v h => ?_⟩
  by_cases hi : i < evs.length
  · rw [List.getElem?_append_left (by simpa using hi), List.getElem?_map] at h
    obtain ⟨w, hw, e⟩ := Option.map_eq_some_iff.mp h
    cases e
    obtain ⟨x, hx, rx⟩ := r.at hw
    exact ⟨x, by rw [List.getElem?_append_left (by simp; omega), List.getElem?_map, hx]; rfl, rx⟩
  · rw [List.getElem?_append_right (by simpa using hi), List.getElem?_replicate] at h
    split at h <;> cases h
abbrev aM (Q : EK) : LEnds := { nx := fun _ h => Q .non h, rt := Q }
theorem cJ {P : Program} {w : World} {K : PySem.W.Frag} {mg : Str → Option Value} {base : Heap} {k : Nat} {f : Addr} {fd : FuncData} {name qual : Str} {params : Arguments} {body : List Stmt} {scope : Scope} {N ps : List Str} {sp : LSp}
    (F : FunD K name qual params body scope [] [] f fd) (Sc : FnScope N ps scope) (len : ∀ evs h Q, sp evs h Q → evs.length = ps.length)
    (hbody : ∀ (cdv : Value) (A : Around) (outer : List Env) (s : Shared) (H : Hp), Room k (A.deeper (envOfC qual scope s.heap.objs.size f cdv)) → (A.deeper (envOfC qual scope s.heap.objs.size f cdv)).guards = some [] →
      ∃ t, LSs (cxOf CX0 P w K mg base N qual scope f cdv A outer s H E0).nox body t ∧ ∀ evs h Q, sp evs h Q → t (aM Q) (bF N evs) h) :
    FnG P w K mg base (k + 1) f fd ps sp := by
  obtain ⟨oc, od, dV, kV, doc, pm, an, cdv, ct, osl, rfl, lk, hcd, _, _⟩ := F.ex
  refine ⟨len, fun A outer s H args us vs Q hr hG e0 hb r q => ?_⟩
  have hl : vs.length = ps.length := upSp.len len q
  have keepB : ∀ b o, base.get? b = some o → s.heap.get? b = some o := fun b o e => (e0.bs b o e).1
  have inK := e0.mod.kin.keeps keepB
  obtain ⟨t, ht, hq⟩ := hbody cdv A outer s H (hr.deeper _) hG
  refine codeAny_call_function hr.depth (inK _ _ lk) rfl Sc.co Sc.gen rfl (PySem.W.codeRec_of inK hcd) (hb _ _ _ _ ?_)
  refine wpAny_newFunctionEnv_cells Sc.kind (fun y hy => ?_) fun env he s1 x => ?_
  · rcases Sc.par y.1 (List.of_mem_zip hy).1 with z | z
    · exact .inl z
    · exact .inr ⟨z, PySem.W.cellsFrom_some _ _ _ (.inl z)⟩
  · subst he
    refine ⟨(e0.mod.nolimit.keeps keepB).keeps x.toInCall.keep, codeAny_func ?_⟩
    obtain ⟨m, h, evs, Pk, R, re, sq, kq⟩ := q
    have I := inv_start (CX := CX0) (P := P) (w := w) (K := K) (mg := mg) (base := base) (E := E0) Sc hr.hd e0 hl r x
    have run := ht.pss.nox.run [] s1 (start N vs) H { nx := fun _ H' => Q .non H', rt := Q } I ⟨m, bF N evs, h, aM Pk, ⟨R, start_rel N re⟩, hq evs h Pk sq, ⟨fun env' h' p m' H' σ' E' a' => kq _ _ p m' H' _ E' a'.hp (by rw [az]), kq, fun _ _ z => z.elim, fun _ _ z => z.elim⟩⟩
    refine wpAny_mono run (fun fl s' hs => ?_) fun e s' hs => hs
    match fl, hs with
    | .ret u, ⟨v, σ', H', J, rv, z⟩ => exact ⟨v, H', J.os, J.bare, J.base, J.hok, rv, z⟩
    | .next, ⟨σ', H', J, z⟩ => exact ⟨.non, H', J.os, J.bare, J.base, J.hok, rfl, z⟩
    | .brk, ⟨_, _, _, z⟩ => exact z.elim
    | .cont, ⟨_, _, _, z⟩ => exact z.elim
def spTop (n : Nat) : LSp := fun evs h Q => ∃ ns : List Int, evs = [.ref 0] ∧ h = [.frz (ns.map EV.int)] ∧ ns.length ≤ n ∧ ∀ h', Q (.bl true) h'
theorem rel_ints {K : PySem.W.Frag} {m : Nat → Addr} {n : Nat} {H : Hp} : ∀ ns : List Int, aG K m n H (ns.map EV.int) (ns.map V.int)
  | [] => .nil
  | i :: l => .cons (by rw [az]) (rel_ints l)
theorem up_top {K : PySem.W.Frag} {H : Hp} {a : Addr} {ns : List Int} {n : Nat} (hl : ns.length ≤ n) (hf : FrzL K H a (ns.map V.int)) : upSp K (spTop n) [.ref a] H fun v _ => v = .bl true := by
  refine ⟨fun _ => a, [.frz (ns.map EV.int)], [.ref 0], fun v _ => v = .bl true, ⟨fun r o hr => ?_, fun r q o u hr hq fo => ?_⟩, .one (by rw [az]; exact ⟨Nat.one_pos, rfl⟩), ⟨ns, rfl, rfl, hl, fun _ => rfl⟩, fun v h' e m' H' x E R r => ?_⟩
  · cases r with
    | zero =>
      cases hr
      exact ⟨_, hf, rel_ints ns⟩
    | succ r => simp at hr
  · cases r with
    | zero => cases hr; cases fo
    | succ r => simp at hr
  · subst e
    rw [az] at r
    exact r
section
variable {P : Program} {w : World} {K : PySem.W.Frag} {mg : Str → Option Value}
theorem topCall {mb : Str → Option Value} {k n : Nat} {fa a : Addr} {fd : FuncData} {x : Str} {s₁ : Shared} {vs : List Value} {ns : List Int} (KX : K.In s₁.heap) (hns : s₁.heap.Ns mainGlobals mg) (hb : s₁.heap.Ns builtinsNs mb)
    (hbb : ∀ x : Str, x ≠ "__name__" → mb x = bootBuiltins x) (hlim : s₁.heap.NoLimit) (hg : s₁.gens = #[]) (ha : s₁.heap.get? a = some { cls := .type "list", data := .seq vs.toArray }) (hi : IntsAre vs ns) (hl : ns.length ≤ n) (hn : n ≤ sizeLine) (hr : Room k callerA)
    (F : ∀ base : Heap, K.In base → base.Ns mainGlobals mg → FnG P w K mg base k fa fd [x] (spTop n)) (hbind : ∀ (s : Shared) (u : Value), BindsTo s fd ⟨[u], []⟩ [(x, u)]) :
    codeAny (model P w) callerA (.call (.ref fa) ⟨[.ref a], []⟩) (fun r s' => r = .ok (.ret (.bool true)) ∧ OldK s₁.heap s'.heap ∧ s'.os = s₁.os ∧ AllBare s'.gens) s₁ := by
  have go : ∀ H : Hp, (∀ b u, H b = some u → b = a ∧ u = .frz { cls := .type "list", data := .seq vs.toArray } (.lst (ns.map V.int))) → (∀ u, H a = some u → K.lookup a = none) → FrzL K H a (ns.map V.int) →
      codeAny (model P w) callerA (.call (.ref fa) ⟨[.ref a], []⟩) (fun r s' => r = .ok (.ret (.bool true)) ∧ OldK s₁.heap s'.heap ∧ s'.os = s₁.os ∧ AllBare s'.gens) s₁ := by
    intro H hH hK hf
    have hok : HOk P w H s₁.heap := fun b u e => by
      obtain ⟨rfl, rfl⟩ := hH b u e
      exact ⟨ha, by rw [List.length_map]; omega, vs, _, vals_ints hi, ha⟩
    have off : ∀ {b : Addr} {o : Obj}, s₁.heap.get? b = some o → (b = a → H a = none) → (hidT s₁.heap H).get? b = some o := fun {b o} e z => hidT_get e (by
      cases q : H b with
      | none => rfl
      | some u =>
        have e2 := (hH b u q).1
        rw [e2, z e2] at q
        cases q)
    have ns' : ∀ {b : Addr} {m : Str → Option Value}, s₁.heap.Ns b m → (hidT s₁.heap H).Ns b m := fun {b m} ⟨o, es, ep, e, d, r⟩ => ⟨o, es, ep, off e (fun z => by
      subst z
      rw [ha] at e
      cases e
      cases (show Data.seq vs.toArray _ = Data.dict es ep from d)), d, r⟩
    have inB : K.In (hidT s₁.heap H) := fun b o e => off (KX b o e) fun z => by
      subst z
      cases q : H b with
      | none => rfl
      | some u => rw [hK u q] at e; cases e
    obtain ⟨ml, l1, l2⟩ := hlim
    have md : Mod K mg (hidT s₁.heap H) := ⟨inB, ns' hns, ⟨mb, ns' hb, hbb⟩, ⟨ml, ns' l1, l2⟩⟩
    have e0 : Env0 P w K mg (hidT s₁.heap H) callerA [] s₁ H := ⟨rfl, md, fun b o e => of_hidT e, Nat.le_of_eq (hidT_size _ _), trivial, fun b hb => (nomatch hb), hok, .of_eq hg⟩
    refine codeAny_mono ((F _ inB (ns' hns)).run callerA [] s₁ H ⟨[.ref a], []⟩ [.ref a] [.ref a] (fun v _ => v = .bl true) hr rfl e0 (hbind s₁ (.ref a)) (.cons rfl .nil) (up_top hl hf)) fun r s' h => ?_
    match r, h with
    | .error _, h => exact h.elim
    | .ok .next, h => exact h.elim
    | .ok .brk, h => exact h.elim
    | .ok .cont, h => exact h.elim
    | .ok (.ret u), ⟨v, H', os, bare, un, hok', rv, q⟩ =>
      have q' : v = .bl true := q
      subst q'
      have hu : u = Value.bool true := rv
      subst hu
      refine ⟨rfl, OldK.of_keep fun b o e => ?_, os, bare⟩
      cases z : H b with
      | none => exact un.keep b o e z (fun y => nomatch y) (fun y => nomatch y)
      | some t =>
        obtain ⟨rfl, rfl⟩ := hH b t z
        have z2 := un.frzs b _ _ z
        obtain ⟨e2, _⟩ := hok' b _ z2
        rw [ha] at e
        cases e
        exact e2
  cases hk : K.lookup a with
  | some o =>
    have e := KX a o hk
    rw [ha] at e
    cases e
    exact go (fun _ => none) (fun b u z => nomatch z) (fun u z => nomatch z) (.inr ⟨_, vs.toArray, _, hk, rfl, rfl, rfl, by rw [List.size_toArray, hi.length]; omega, by simpa using vals_ints hi⟩)
  | none =>
    refine go (fun b => if b = a then some (.frz { cls := .type "list", data := .seq vs.toArray } (.lst (ns.map V.int))) else none) (fun b u z => ?_) (fun _ _ => hk) (.inl ⟨_, if_pos rfl⟩)
    by_cases hb : b = a
    · rw [show (if b = a then some (HO.frz { cls := .type "list", data := .seq vs.toArray } (.lst (ns.map V.int))) else none) = _ from if_pos hb] at z
      cases z
      exact ⟨hb, rfl⟩
    · rw [show (if b = a then some (HO.frz { cls := .type "list", data := .seq vs.toArray } (.lst (ns.map V.int))) else none) = _ from if_neg hb] at z
      cases z
end
theorem walkG {l : PySem.W.OpenLaw} {n k : Nat} {q : Program} {loose : List Str} {XP : (Str → Option Value) → Heap → Prop} {YP : World → Heap → Prop} {d : DefRec} {x : Str}
    (hn : l.most = some n) (hn2 : n ≤ sizeLine) (hdf : d.params.defaults = []) (hr : Room k callerA)
    (F : ∀ (w : World) (mg : Str → Option Value) (fa : Addr) (h : Heap), YP w h → h.Ns mainGlobals mg → mg d.name = some (.ref fa) →
      ∃ (K : PySem.W.Frag) (fd : FuncData), K.In h ∧ (∀ (s : Shared) (u : Value), BindsTo s fd ⟨[u], []⟩ [(x, u)]) ∧ ∀ base : Heap, K.In base → base.Ns mainGlobals mg → FnG l.prog w K mg base k fa fd [x] (spTop n)) :
    PySem.W.WalkO q loose XP YP l.row.toRowW d [] (fun f vs => PySem.call f vs) := by
  refine Att.attach_call hn hdf fun w s₀ s₁ mg mb fa o pm cd doc a vs ns G Y _ _ _ hmg hobj hints hlen hg => ?_
  obtain ⟨K, fd, KX, hb, hF⟩ := F w mg fa _ Y G.T.g hmg
  exact topCall KX G.T.g G.T.b G.T.builtins G.T.nolimit hg hobj hints hlen hn2 hr hF hb
end Y
namespace Y
open PySem PySem.Spec PyProof.Rows L2
section
variable {X : Cx}
theorem bK.length {K : PySem.W.Frag} {m : Nat → Addr} {n : Nat} {H : Hp} : ∀ {es : List (EV × EV)} {vs : List (L2.Key × V)}, bK K m n H es vs → es.length = vs.length
  | [], _, r => by rw [bK] at r; subst r; rfl
  | _ :: _, _, r => by
    rw [bK] at r
    obtain ⟨k, v, l, rfl, _, _, r⟩ := r
    simp [bK.length r]
def eG : LC := fun vs h P => match vs with
  | [.str s] => s.length ≤ sizeLine ∧ P (.int s.length) h
  | [.tup xs] => P (.int xs.length) h
  | [.ktup xs] => P (.int xs.length) h
  | [.ref r] => match h[r]? with
    | some (.lst xs) => P (.int xs.length) h
    | some (.frz xs) => P (.int xs.length) h
    | some (.dic xs) => P (.int xs.length) h
    | _ => False
  | _ => False
theorem gM : oh X (.builtin "len") eG := by
  refine ⟨_, CallR.or call_len_str (CallR.or call_len_seq call_lenD), ?_⟩
  intro m h H vs xs P Q R r0 q k
  unfold eG at q
  split at q
  · obtain ⟨v, rfl, r⟩ := r0.one_inv
    rw [az] at r
    subst r
    exact .inl ⟨_, rfl, by rw [S_len]; exact q.1, by rw [S_len]; exact k.same R q.2 (by rw [az])⟩
  · obtain ⟨v, rfl, r⟩ := r0.one_inv
    rw [az] at r
    obtain ⟨a, vs, rfl, hs, r⟩ := r
    exact .inr (.inl ⟨a, vs, rfl, .inr (SqT.of hs), by rw [← r.length]; exact k.same R q (by rw [az])⟩)
  · obtain ⟨v, rfl, r⟩ := r0.one_inv
    rw [az] at r
    obtain ⟨a, vs, rfl, hs, r⟩ := r
    exact .inr (.inl ⟨a, vs, rfl, .inr hs, by rw [← r.length]; exact k.same R q (by rw [az])⟩)
  · obtain ⟨v, rfl, r⟩ := r0.one_inv
    rw [az] at r
    obtain ⟨_, rfl⟩ := r
    split at q
    · rename_i e
      obtain ⟨vs, a, r⟩ := R.obj _ _ e
      exact .inr (.inl ⟨_, vs, rfl, .inl (SqL.of a), by rw [← r.length]; exact k.same R q (by rw [az])⟩)
    · rename_i e
      obtain ⟨vs, a, r⟩ := R.obj _ _ e
      exact .inr (.inl ⟨_, vs, rfl, .inl a.sql, by rw [← r.length]; exact k.same R q (by rw [az])⟩)
    · rename_i e
      obtain ⟨vs, a, r⟩ := R.obj _ _ e
      exact .inr (.inr ⟨_, vs, rfl, a, by rw [← r.length]; exact k.same R q (by rw [az])⟩)
    · exact q.elim
  · exact q.elim
def absE : LC := fun vs h P => match vs with
  | [.int i] => P (.int i.natAbs) h
  | _ => False
theorem lc_abs : oh X (.builtin "abs") absE := by
  refine ⟨_, call_abs, ?_⟩
  intro m h H vs xs P Q R r0 q k
  unfold absE at q
  split at q
  · obtain ⟨v, rfl, r⟩ := r0.one_inv
    rw [az] at r
    subst r
    rename_i i
    refine ⟨i, rfl, ?_⟩
    have e : (if i < 0 then -i else i) = (i.natAbs : Int) := by split <;> omega
    rw [e]
    exact k.same R q (by rw [az])
  · exact q.elim
def intOf : LC := fun vs h P => match vs with
  | [.int i] => P (.int i) h
  | [.bl b] => P (.int (if b then 1 else 0)) h
  | _ => False
theorem pX : oh X (.type "int") intOf := by
  refine ⟨_, call_int1, ?_⟩
  intro m h H vs xs P Q R r0 q k
  unfold intOf at q
  split at q
  · obtain ⟨v, rfl, r⟩ := r0.one_inv
    rw [az] at r
    subst r
    exact .inl ⟨_, rfl, k.same R q (by rw [az])⟩
  · obtain ⟨v, rfl, r⟩ := r0.one_inv
    rw [az] at r
    subst r
    exact .inr ⟨_, rfl, k.same R q (by rw [az])⟩
  · exact q.elim
theorem aG.ints {K : PySem.W.Frag} {m : Nat → Addr} {n : Nat} {H : Hp} : ∀ {ns : List Int} {vs : List V}, aG K m n H (ns.map EV.int) vs → vs = ns.map V.int
  | [], _, r => by rw [List.map_nil, aG] at r; exact r
  | i :: l, _, r => by
    rw [List.map_cons, aG] at r
    obtain ⟨v, t, rfl, a, b⟩ := r
    rw [az] at a
    rw [a, aG.ints b]; rfl
def maxE : LC := fun vs h P => match vs with
  | [.ref r] => match h[r]? with
    | some (.lst xs) => ∃ ns : List Int, xs = ns.map EV.int ∧ ns ≠ [] ∧ ∀ m, m ∈ ns → (∀ y ∈ ns, y ≤ m) → P (.int m) h
    | _ => False
  | [.int i, .int j] => P (.int (if j > i then j else i)) h
  | _ => False
theorem lc_max (hc : X.calm = true) : oh X (.builtin "max") maxE := by
  refine ⟨_, CallR.or (cr_max hc) (call_max2 hc), ?_⟩
  intro m h H vs xs P Q R r0 q k
  unfold maxE at q
  split at q
  · obtain ⟨v, rfl, r⟩ := r0.one_inv
    rw [az] at r
    obtain ⟨_, rfl⟩ := r
    split at q
    · rename_i e
      obtain ⟨vs, a, r⟩ := R.obj _ _ e
      obtain ⟨ns, rfl, ne, q⟩ := q
      have := r.ints
      subst this
      exact .inl ⟨_, ns, rfl, SqL.of a, List.length_pos_iff.mpr ne, fun z h1 h2 => k.same R (q z h1 h2) (by rw [az])⟩
    · exact q.elim
  · obtain ⟨v, w, rfl, r1, r2⟩ := r0.two_inv
    rw [az] at r1
    rw [az] at r2
    subst r1 r2
    exact .inr ⟨_, _, rfl, k.same R q (by rw [az])⟩
  · exact q.elim
def reprE : LC := fun vs h P => match vs with
  | [v] => ∃ d, Dat h 60 v d ∧ d.showable = true ∧ d.shown.length ≤ sizeLine ∧ P (.str d.shown.cps.toList) h
  | _ => False
def rRepr (K : PySem.W.Frag) : List V → Hp → VK → Prop := fun xs H Q => ∃ x d, xs = [x] ∧ Dp K H x d ∧ d.depth ≤ 60 ∧ d.plain = true ∧ d.showable = true ∧ d.shown.length ≤ sizeLine ∧ Q (.str d.shown) H
mutual
theorem plain_noDict : ∀ d : PyData, d.plain = true → d.hasDict = false
  | .none, _ => by simp only [PyData.hasDict]
  | .bool _, _ => by simp only [PyData.hasDict]
  | .int _, _ => by simp only [PyData.hasDict]
  | .str _, _ => by simp only [PyData.hasDict]
  | .list xs, h => by simp only [PyData.hasDict]; exact plain_noDicts xs (by simpa [PyData.plain] using h)
  | .tuple xs, h => by simp only [PyData.hasDict]; exact plain_noDicts xs (by simpa [PyData.plain] using h)
  | .dict _, h => by simp [PyData.plain] at h
theorem plain_noDicts : ∀ ds : List PyData, PyData.plainAll ds = true → PyData.hasDictAll ds = false
  | [], _ => by simp only [PyData.hasDictAll]
  | d :: ds, h => by
    have h' : d.plain = true ∧ PyData.plainAll ds = true := by simpa [PyData.plainAll] using h
    simp only [PyData.hasDictAll, plain_noDict d h'.1, plain_noDicts ds h'.2, Bool.or_self]
end
theorem call_reprD (hG : X.A.guards = some []) (hu : X.A.units + 64 < cLine) : CallR X (.builtin "repr") (rRepr X.K) := by
  intro pins s σ H xs us Q I r q
  obtain ⟨x, d, rfl, hd, dd, pd, sd, zd, q⟩ := q
  obtain ⟨u, rfl, ru⟩ := vals1 r
  cases hd with
  | non =>
    cases ru
    simp only [PyData.shown] at q
    exact PySem.P.repr_of_none ⟨.str _, H, I.tok _, ⟨_, rfl⟩, q⟩
  | bl b =>
    cases ru
    simp only [PyData.shown] at q
    exact PySem.P.repr_of_bool ⟨.str _, H, I.tok _, ⟨_, rfl⟩, q⟩
  | int i =>
    obtain ⟨t, rfl⟩ := ru
    simp only [PyData.shown] at q
    exact PySem.P.repr_of_int (by simpa [PyData.showable] using sd) ⟨.str _, H, I.tok _, ⟨_, rfl⟩, q⟩
  | str z =>
    obtain ⟨t, rfl⟩ := ru
    simp only [PyData.shown] at q zd
    exact PySem.P.repr_of_str ⟨.str _, H, I.tok _, ⟨_, rfl⟩, q⟩ zd
  | lst hs ha =>
    cases ru
    obtain ⟨as, rd⟩ := Dp.reads I _ _ _ (.lst hs ha) rfl
    exact PySem.repr_of_reads' rd sd (fun z => by rw [plain_noDict _ pd] at z; cases z) hG (by omega) (fun _ _ e => e) (fun h' u tk kk => ⟨.str _, H, I.kept kk, ⟨_, rfl⟩, q⟩) zd
  | tup hs ha =>
    cases ru
    obtain ⟨as, rd⟩ := Dp.reads I _ _ _ (.tup hs ha) rfl
    exact PySem.repr_of_reads' rd sd (fun z => by rw [plain_noDict _ pd] at z; cases z) hG (by omega) (fun _ _ e => e) (fun h' u tk kk => ⟨.str _, H, I.kept kk, ⟨_, rfl⟩, q⟩) zd
theorem lc_repr (hG : X.A.guards = some []) (hu : X.A.units + 64 < cLine) : oh X (.builtin "repr") reprE := by
  refine ⟨_, call_reprD hG hu, ?_⟩
  intro m h H vs xs P Q R r0 q k
  unfold reprE at q
  split at q
  · obtain ⟨v, rfl, r⟩ := r0.one_inv
    obtain ⟨d, dd, sd, zd, p⟩ := q
    exact ⟨v, d, rfl, Dat.dp R _ _ _ _ dd r, (Dat.dep _ _ _ dd).1, (Dat.dep _ _ _ dd).2, sd, zd, k.same R p (by rw [az])⟩
  · exact q.elim
def tupleOf : LC := fun vs h P => match vs with
  | [.tup xs] => P (.tup xs) h
  | [.ref r] => match h[r]? with
    | some (.lst xs) => P (.tup xs) h
    | some (.frz xs) => P (.tup xs) h
    | _ => False
  | _ => False
theorem lc_tuple : oh X (.type "tuple") tupleOf := by
  refine ⟨_, call_tuple_of, ?_⟩
  intro m h H vs xs P Q R r0 q k
  unfold tupleOf at q
  split at q
  · obtain ⟨v, rfl, r⟩ := r0.one_inv
    have r0 := r
    rw [az] at r
    obtain ⟨a, vs, rfl, hs, r⟩ := r
    exact ⟨a, vs, rfl, .inr ⟨(SqT.of hs), k.same R q r0⟩⟩
  · obtain ⟨v, rfl, r⟩ := r0.one_inv
    rw [az] at r
    obtain ⟨_, rfl⟩ := r
    split at q
    · rename_i e
      obtain ⟨vs, a, r⟩ := R.obj _ _ e
      exact ⟨_, vs, rfl, .inl ⟨SqL.of a, fun l hl => k.tup R q r hl⟩⟩
    · rename_i e
      obtain ⟨vs, a, r⟩ := R.obj _ _ e
      exact ⟨_, vs, rfl, .inl ⟨a.sql, fun l hl => k.tup R q r hl⟩⟩
    · exact q.elim
  · exact q.elim
end
def onList (v : EV) (h : EH) (f : Nat → List EV → Prop) : Prop := match v with
  | .ref r => match h[r]? with
    | some (.lst xs) => f r xs
    | _ => False
  | _ => False
section
variable {X : Cx}
theorem onList_sim {K : PySem.W.Frag} {m : Nat → Addr} {h : EH} {H : Hp} {v : EV} {x : V} {f : Nat → List EV → Prop} (R : dD K m h H) (r : az K m h.length H v x) (q : onList v h f) : ∃ i xs vs, h[i]? = some (.lst xs) ∧ x = .ref (m i) ∧ H (m i) = some (.lst vs) ∧ aG K m h.length H xs vs ∧ f i xs := by
  unfold onList at q
  split at q
  · rw [az] at r
    obtain ⟨_, rfl⟩ := r
    split at q
    · rename_i e
      obtain ⟨vs, a, r⟩ := R.obj _ _ e
      exact ⟨_, _, vs, e, rfl, a, r, q⟩
    · exact q.elim
  · exact q.elim
theorem Kon.upd {K : PySem.W.Frag} {m : Nat → Addr} {H : Hp} {h : EH} {P : EK} {Q : VK} (k : Kon K m h.length H P Q) (R : dD K m h H) {i : Nat} {xs ys : List EV} {us : List V} {v : EV} {x : V} (e : h[i]? = some (.lst xs)) (p : P v (h.set i (.lst ys))) (r : az K m h.length H v x) (ru : aG K m h.length H ys us) : Q x (upd H (m i) (.lst us)) := by
  have E : Ex K m h.length H m (h.set i (.lst ys)).length (L2.upd H (m i) (.lst us)) := Ex.write R e
  exact k _ _ p m _ _ E (R.write e ⟨us, upd_same, aG.ex E _ _ ru⟩) (az.ex E _ _ r)
def fX : LM := fun v vs h P => match vs with
  | [y] => onList v h fun r xs => xs.length < sizeLine ∧ P .non (h.set r (.lst (xs ++ [y])))
  | _ => False
theorem j9 {K : PySem.W.Frag} : LMl K "list" rAppend fX := by
  intro m h H v x vs xs P Q R rx rv q k
  unfold fX at q
  split at q
  · obtain ⟨y, rfl, ry⟩ := rv.one_inv
    obtain ⟨i, es, us, e, rfl, a, r, q⟩ := onList_sim R rx q
    exact ⟨_, us, y, rfl, rfl, a, by rw [← r.length]; exact q.1, k.upd R e q.2 (by rw [az]) (r.app (.one ry))⟩
  · exact q.elim
def insertE : LM := fun v vs h P => match vs with
  | [.int i, y] => onList v h fun r xs => xs.length < sizeLine ∧ 0 ≤ i ∧ i < 2 ^ 63 ∧ P .non (h.set r (.lst (xs.take i.toNat ++ [y] ++ xs.drop i.toNat)))
  | _ => False
theorem lm_insert {K : PySem.W.Frag} : LMl K "list" (fun x vs H Q => ∃ (l : Addr) (xs : List V) (i : Int) (y : V), x = .ref l ∧ vs = [.int i, y] ∧ H l = some (.lst xs) ∧ xs.length < sizeLine ∧ 0 ≤ i ∧ i < 2 ^ 63 ∧
    Q .non (upd H l (.lst (xs.take i.toNat ++ [y] ++ xs.drop i.toNat)))) insertE := by
  intro m h H v x vs xs P Q R rx rv q k
  unfold insertE at q
  split at q
  · obtain ⟨z, y, rfl, rz, ry⟩ := rv.two_inv
    rw [az] at rz
    subst rz
    obtain ⟨i, es, us, e, rfl, a, r, q⟩ := onList_sim R rx q
    exact ⟨_, us, _, y, rfl, rfl, a, by rw [← r.length]; exact q.1, q.2.1, q.2.2.1, k.upd R e q.2.2.2 (by rw [az]) (((r.take _).app (.one ry)).app (r.drop _))⟩
  · exact q.elim
def extendE : LM := fun v vs h P => match vs with
  | [.ref b] => onList v h fun r xs => onList (.ref b) h fun _ ys => xs.length + ys.length ≤ sizeLine ∧ P .non (h.set r (.lst (xs ++ ys)))
  | _ => False
theorem lm_extend {K : PySem.W.Frag} : LMl K "list" rExtend extendE := by
  intro m h H v x vs xs P Q R rx rv q k
  unfold extendE at q
  split at q
  · obtain ⟨y, rfl, ry⟩ := rv.one_inv
    obtain ⟨i, es, us, e, rfl, a, r, q⟩ := onList_sim R rx q
    obtain ⟨j, fs, ws, e2, rfl, a2, r2, q⟩ := onList_sim R ry q
    exact ⟨_, _, us, ws, rfl, rfl, a, a2, by rw [← r.length, ← r2.length]; exact q.1, k.upd R e q.2 (by rw [az]) (r.app r2)⟩
  · exact q.elim
def lu {α : Type} (k : Int) (xs : List α) : List α := (List.replicate k.toNat xs).flatten
def oG : LO := fun v w h P => match v, w with
  | .int i, .int j => PySem.IntMulOk i j ∧ P (.int (i * j)) h
  | .str s, .int k => (0 < k ∧ k < 2 ^ 24 ∧ s.length * k.toNat ≤ 1000000) ∧ P (.str (lu k s)) h
  | .tup xs, .int k => (xs ≠ [] ∧ 2 ≤ k ∧ k ≤ 1000 ∧ xs.length ≤ 1000) ∧ P (.tup (lu k xs)) h
  | .ref r, .int k => match h[r]? with
    | some (.lst xs) => (-(2 ^ 63) ≤ k ∧ k < 2 ^ 63 ∧ xs.length * k.toNat ≤ sizeLine) ∧ P (.ref h.length) (h ++ [.lst (lu k xs)])
    | _ => False
  | _, _ => False
theorem foldl_rep (x : Array Nat) : ∀ (k : Nat) (a : Array Nat), (List.replicate k x).foldl (· ++ ·) a = a ++ (List.replicate k x.toList).flatten.toArray
  | 0, a => by simp
  | k + 1, a => by
    rw [List.replicate_succ, List.foldl_cons, foldl_rep x k, List.replicate_succ, List.flatten_cons]
    apply Array.ext'
    simp
def rMulS : R2 := fun x y H Q => ∃ (s : List Nat) (k : Int), x = .str (S s) ∧ y = .int k ∧ (0 < k ∧ k < 2 ^ 24 ∧ s.length * k.toNat ≤ 1000000) ∧ Q (.str (S (lu k s))) H
theorem op_mulS : OpR X (binaryOp .Mult) rMulS := by
  intro pins s σ H x y v u Q I rx ry q
  obtain ⟨l, k, rfl, rfl, ⟨h0, h1, hz⟩, q⟩ := q
  obtain ⟨t, rfl⟩ := rx
  obtain ⟨t', rfl⟩ := ry
  have e : (S l).length = l.length := S_len l
  have fin : ∀ tk, EP X pins σ Q (.str (S (lu k l)) tk) { s with toks := tk + 1 } := fun tk => ⟨.str _, H, I.tok _, ⟨_, rfl⟩, q⟩
  refine PySem.P.mul_str ?_ (fun _ _ z => ?_) (fun _ _ => ?_) ?_
  · have a : ¬ k < -(2 ^ 63 : Int) := by omega
    have b : ¬ k ≥ 2 ^ 63 := by omega
    rw [decide_eq_false a, decide_eq_false b]; rfl
  · rw [e] at z
    have h2 : (l.length : Int) * k ≤ 1000000 := by
      have : ((l.length * k.toNat : Nat) : Int) ≤ 1000000 := by omega
      rw [Int.natCast_mul, Int.toNat_of_nonneg (by omega)] at this
      exact this
    have h3 : (l.length : Int) ≤ 1000000 := by
      have : (l.length : Int) * 1 ≤ (l.length : Int) * k := Int.mul_le_mul_of_nonneg_left (by omega) (by omega)
      omega
    have h4 : (2 ^ 63 - 1 : Int) / k ≥ (2 ^ 63 - 1 : Int) / 2 ^ 24 := by
      rw [ge_iff_le, Int.le_ediv_iff_mul_le (by omega)]
      have : (2 ^ 63 - 1 : Int) / 2 ^ 24 * k ≤ (2 ^ 63 - 1 : Int) / 2 ^ 24 * 2 ^ 24 := Int.mul_le_mul_of_nonneg_left (by omega) (by decide)
      have h5 : (2 ^ 63 - 1 : Int) / 2 ^ 24 * 2 ^ 24 ≤ 2 ^ 63 - 1 := by decide
      omega
    have h6 : (2 ^ 63 - 1 : Int) / 2 ^ 24 = 549755813887 := by decide
    omega
  · rw [e]
    unfold Builtin.Str.tooLong
    have : sizeLine = 16777216 := by decide
    rw [decide_eq_false]
    omega
  · rw [if_neg (by omega)]
    by_cases hk : (k == 1 || (S l).length == 0) = true
    · rw [if_pos hk]
      have e2 : lu k l = l := by
        rw [e, Bool.or_eq_true, beq_iff_eq, beq_iff_eq] at hk
        rcases hk with rfl | hk
        · simp [lu]
        · have : l = [] := List.length_eq_zero_iff.mp hk
          subst this
          simp [lu]
      rw [e2] at q
      exact ⟨.str _, H, I, ⟨_, rfl⟩, q⟩
    · rw [if_neg hk]
      have e2 : (⟨(List.replicate k.toNat (S l).cps).foldl (· ++ ·) #[]⟩ : Str) = S (lu k l) := by
        rw [foldl_rep]
        simp [lu]
      rw [e2]
      exact ⟨by
        have e3 : (S (lu k l)).length = l.length * k.toNat := by
          rw [S_len, lu, List.length_flatten, List.map_replicate, List.sum_replicate_nat]
          exact Nat.mul_comm _ _
        rw [e3]
        have : sizeLine = 16777216 := by decide
        omega, fin _⟩
theorem op_mulO : OpR X (binaryOp .Mult) (rI PySem.IntMulOk fun i j => .int (i * j)) := opI fun _ _ _ _ _ _ _ hc q => mul_int q hc
theorem lo_mul : pW X (binaryOp .Mult) oG := by
  refine ⟨_, OpR.or op_mulO (OpR.or op_mulS (OpR.or op_repT op_rep)), ?_⟩
  intro m h H v w x y P Q R rx ry q k
  unfold oG at q
  split at q
  · rw [az] at rx
    rw [az] at ry
    exact .inl ⟨_, _, rx, ry, q.1, k.same R q.2 (by rw [az])⟩
  · rw [az] at rx
    rw [az] at ry
    exact .inr (.inl ⟨_, _, rx, ry, q.1, k.same R q.2 (by rw [az])⟩)
  · rw [az] at rx
    rw [az] at ry
    obtain ⟨a, us, rfl, hs, r⟩ := rx
    subst ry
    refine .inr (.inr (.inl ⟨a, _, us, rfl, rfl, (SqT.of hs), ?_, q.1.2.1, q.1.2.2.1, by rw [← r.length]; exact q.1.2.2.2, fun p hp => k.tup R q.2 ?_ hp⟩))
    · rintro rfl
      have := r.length
      exact q.1.1 (List.length_eq_zero_iff.mp this)
    · unfold lu
      generalize Int.toNat _ = n
      induction n with
      | zero => exact .nil
      | succ n ih => rw [List.replicate_succ, List.replicate_succ, List.flatten_cons, List.flatten_cons]; exact r.app ih
  · rw [az] at rx
    rw [az] at ry
    obtain ⟨_, rfl⟩ := rx
    subst ry
    split at q
    · rename_i e
      obtain ⟨us, a, r⟩ := R.obj _ _ e
      refine .inr (.inr (.inr ⟨_, _, us, rfl, rfl, a, q.1.1, q.1.2.1, by rw [← r.length]; exact q.1.2.2, fun p hp => k.lst R q.2 ?_ hp⟩))
      unfold lu
      generalize Int.toNat _ = n
      induction n with
      | zero => exact .nil
      | succ n ih => rw [List.replicate_succ, List.replicate_succ, List.flatten_cons, List.flatten_cons]; exact r.app ih
    · exact q.elim
  · exact q.elim
theorem lookup_mem {α β : Type} [BEq α] [LawfulBEq α] {l : List (α × β)} {a : α} {b : β} (h : l.lookup a = some b) : (a, b) ∈ l := by
  induction l with
  | nil => cases h
  | cons p l ih =>
    obtain ⟨x, y⟩ := p
    rw [List.lookup_cons] at h
    cases e : a == x with
    | true =>
      rw [e] at h
      cases h
      rw [beq_iff_eq.mp e]
      exact List.mem_cons_self
    | false =>
      rw [e] at h
      exact List.mem_cons_of_mem _ (ih h)
end
end Y
namespace Y
open PySem PySem.Spec PyProof.Rows L2
section
variable {X : Cx} {pins : List (Addr × Obj)} {s : Shared} {σ : L2.St} {H : Hp}
end
section
variable {P : Program} {w : World} {K : PySem.W.Frag} {elts : List Expr} {kk : Nat} {tpos : Pos}
end
section
variable {X : Cx} {e e2 : Expr} {ta : TA} {p pos tpos : Pos} {elts : List Expr} {kk : Nat}
end
def srcE (v : EV) (h : EH) (P : (EH → Prop) → List EV → Prop) : Prop := match v with
  | .ref r => match h[r]? with
    | some (.lst xs) => P (fun h' => h'[r]? = some (.lst xs)) xs
    | some (.frz xs) => P (fun h' => h'[r]? = some (.frz xs)) xs
    | _ => False
  | .tup xs => P lTrue xs
  | .ktup xs => P lTrue xs
  | .str s => P lTrue (s.map fun c => .str [c])
  | _ => False
def fV (ta : LA) : LI := fun env h P => ta env h fun vs h1 => match vs with
  | [x, y] => srcE x h1 fun g xs => srcE y h1 fun g2 ys => P (fun h' => g h' ∧ g2 h') (List.zipWith (fun a b => EV.tup [a, b]) xs ys) h1
  | _ => False
theorem rel_pair {K : PySem.W.Frag} {m : Nat → Addr} {h : EH} {H : Hp} {a b : EV} {x y : V} {T : Addr} (R : dD K m h H) (hT : H T = none) (r1 : az K m h.length H a x) (r2 : az K m h.length H b y) :
    Ex K m h.length H m h.length (upd H T (.tup [x, y])) ∧ dD K m h (upd H T (.tup [x, y])) ∧ az K m h.length (upd H T (.tup [x, y])) (.tup [a, b]) (.ref T) := by
  have E : Ex K m h.length H m h.length (upd H T (.tup [x, y])) := Ex.tup1 hT
  refine ⟨E, R.tup hT, ?_⟩
  rw [az]
  exact ⟨T, [x, y], rfl, upd_same, .cons (az.ex E _ _ r1) (.one (az.ex E _ _ r2))⟩
section
variable {X : Cx} {e e2 : Expr} {ta : LA} {p pos tpos : Pos} {elts : List Expr} {kk : Nat}
end
def fL (ta : LT) : LT := fun env h P => ta env h fun v h1 => match v with
  | .int i => P (.int (-i)) h1
  | _ => False
theorem le_neg {X : Cx} {a : Expr} {ta : LT} {pos : Pos} (ha : LE X a ta) : LE X (.UnaryOp .USub a pos) (fL ta) := by
  refine ⟨PE.imp (pe_un un_neg ha.pe) fun σ H Q ⟨m, env, h, P, at_, t1, k⟩ => ⟨m, env, h, _, at_, t1, fun v h1 p1 m1 H1 x E1 R1 r1 => ?_⟩⟩
  cases v with
  | int i =>
    rw [az] at r1
    exact ⟨i, r1, k _ _ p1 m1 H1 _ E1 R1 (by rw [az])⟩
  | _ => exact p1.elim
theorem pD {g : EH → Prop} {p : Pat} {tb : LS} {D : LEnds} (I : List EV → En → EH → Prop)
    (stop : ∀ env h, I [] env h → g h ∧ D.nx env h)
    (turn : ∀ x xs env h (k : En → EH → Prop), I (x :: xs) env h → (∀ env' h', I xs env' h' → k env' h') → g h ∧ cH h p x env fun env2 => tb { D with nx := k, ct := k, bk := D.nx } env2 h) :
    ∀ xs env h, I xs env h → loopE g p tb D xs env h
  | [], env, h, i => by rw [loopE]; exact stop env h i
  | x :: xs, env, h, i => by rw [loopE]; exact turn x xs env h _ i fun env' h' i' => pD I stop turn xs env' h' i'
theorem lc_ind {g : EH → Prop} {p : Pat} {tt : LTt} {te : LT} {d : Nat} {env : En} {P : EK} (I : List EV → List EV → EH → Prop)
    (stop : ∀ acc h, I [] acc h → h[d]? = some (.lst acc) → g h ∧ P (.ref d) h)
    (turn : ∀ x xs acc h (ky : EK) (kn : EH → Prop), I (x :: xs) acc h → h[d]? = some (.lst acc) →
      (∀ y h', h'[d]? = some (.lst acc) → acc.length < sizeLine → I xs (acc ++ [y]) (h'.set d (.lst (acc ++ [y]))) → ky y h') → (∀ h', h'[d]? = some (.lst acc) → I xs acc h' → kn h') →
      g h ∧ cH h p x env fun env2 => tt env2 h fun b h3 => if b = true then te env2 h3 ky else kn h3) :
    ∀ xs acc h, h[d]? = some (.lst acc) → I xs acc h → lcE g p tt te d env P xs h
  | [], acc, h, e, i => by rw [lcE]; exact stop acc h i e
  | x :: xs, acc, h, e, i => by
    rw [lcE]
    refine turn x xs acc h _ _ i e (fun y h' e' hl i' => ?_) fun h' e' i' => lc_ind I stop turn xs acc h' e' i'
    rw [e']
    refine ⟨hl, lc_ind I stop turn xs _ _ ?_ i'⟩
    exact List.getElem?_set_self (List.getElem?_eq_some_iff.mp e').1
theorem bf {h : EH} {o : EO} : (h ++ [o])[h.length]? = some o := by simp
theorem qP {h : EH} {o u : EO} : (h ++ [o]).set h.length u = h ++ [u] := by simp
theorem lc_plain {g : EH → Prop} {p : Pat} {tt : LTt} {te : LT} {env : En} {P : EK} {h : EH} (f : EV → Option EV) (xs : List EV) (hl : xs.length ≤ sizeLine) (hg : ∀ acc, g (h ++ [.lst acc]))
    (step : ∀ x ∈ xs, ∀ acc (ky : EK) (kn : EH → Prop), (∀ y, f x = some y → ky y (h ++ [.lst acc])) → (f x = none → kn (h ++ [.lst acc])) →
      cH (h ++ [.lst acc]) p x env fun env2 => tt env2 (h ++ [.lst acc]) fun b h3 => if b = true then te env2 h3 ky else kn h3)
    (fin : P (.ref h.length) (h ++ [.lst (xs.filterMap f)])) : lcE g p tt te h.length env P xs (h ++ [.lst []]) := by
  have key : ∀ ys acc, (∀ x ∈ ys, x ∈ xs) → acc.length + ys.length ≤ xs.length → acc ++ ys.filterMap f = xs.filterMap f → lcE g p tt te h.length env P ys (h ++ [.lst acc]) := by
    intro ys
    induction ys with
    | nil =>
      intro acc _ _ e
      rw [lcE]
      rw [List.filterMap_nil, List.append_nil] at e
      exact ⟨hg _, by rw [e]; exact fin⟩
    | cons x ys ih =>
      intro acc hm hz e
      rw [lcE]
      refine ⟨hg _, step x (hm x (by simp)) acc _ _ (fun y hy => ?_) fun hy => ?_⟩
      · rw [bf]
        simp only [List.length_cons] at hz
        refine ⟨by omega, ?_⟩
        rw [qP]
        refine ih _ (fun z hz' => hm z (List.mem_cons_of_mem _ hz')) (by simp; omega) ?_
        rw [List.filterMap_cons, hy] at e
        simpa using e
      · simp only [List.length_cons] at hz
        refine ih _ (fun z hz' => hm z (List.mem_cons_of_mem _ hz')) (by omega) ?_
        rw [List.filterMap_cons, hy] at e
        exact e
  exact key xs [] (fun _ h => h) (by simp) (by simp)
theorem lc_map {g : EH → Prop} {p : Pat} {te : LT} {env : En} {P : EK} {h : EH} (f : EV → EV) (xs : List EV) (hl : xs.length ≤ sizeLine) (hg : ∀ acc, g (h ++ [.lst acc]))
    (step : ∀ x ∈ xs, ∀ acc (ky : EK), ky (f x) (h ++ [.lst acc]) → cH (h ++ [.lst acc]) p x env fun env2 => te env2 (h ++ [.lst acc]) ky)
    (fin : P (.ref h.length) (h ++ [.lst (xs.map f)])) : lcE g p cY te h.length env P xs (h ++ [.lst []]) := by
  refine lc_plain (fun x => some (f x)) xs hl hg (fun x hx acc ky kn hy _ => ?_) (by rw [List.filterMap_eq_map']; exact fin)
  have q := step x hx acc ky (hy _ rfl)
  unfold cH at q ⊢
  split at q
  · rename_i e
    exact q
  · exact q
def aH (b : Nat → Prop) (h h' : EH) : Prop := h.length ≤ h'.length ∧ ∀ r o, h[r]? = some o → ¬ b r → h'[r]? = some o
theorem aH.refl {b : Nat → Prop} {h : EH} : aH b h h := ⟨Nat.le_refl _, fun _ _ e _ => e⟩
theorem aH.trans {b : Nat → Prop} {h h' h2 : EH} (x : aH b h h') (y : aH b h' h2) : aH b h h2 := ⟨Nat.le_trans x.1 y.1, fun r o e n => y.2 r o (x.2 r o e n) n⟩
theorem aH.app {b : Nat → Prop} {h : EH} (g : EH) : aH b h (h ++ g) := ⟨by simp, fun r o e _ => by rw [List.getElem?_append_left (List.getElem?_eq_some_iff.mp e).1]; exact e⟩
theorem aH.set {b : Nat → Prop} {h : EH} {r : Nat} {o : EO} (hb : b r) : aH b h (h.set r o) := ⟨by simp, fun q u e n => by
  rw [List.getElem?_set_ne (fun z => n (by rw [← z]; exact hb))]; exact e⟩
theorem aH.fresh {b : Nat → Prop} {h h' : EH} {r : Nat} {o : EO} (x : aH b h h') (hr : h.length ≤ r) : aH b h (h'.set r o) := ⟨by simpa using x.1, fun q u e n => by
  have hq := (List.getElem?_eq_some_iff.mp e).1
  rw [List.getElem?_set_ne (by omega)]; exact x.2 q u e n⟩
theorem aH.weak {b c : Nat → Prop} {h h' : EH} (x : aH b h h') (w : ∀ r, b r → c r) : aH c h h' := ⟨x.1, fun r o e n => x.2 r o e fun z => n (w r z)⟩
def no1 : Nat → Prop := fun _ => False
theorem aH.all {c : Nat → Prop} {h h' : EH} (x : aH no1 h h') : aH c h h' := x.weak fun _ z => z.elim
theorem aH.at {h h' : EH} {r : Nat} {o : EO} (x : aH no1 h h') (e : h[r]? = some o) : h'[r]? = some o := x.2 r o e fun z => z
theorem cC {h : EH} {r : Nat} {o : EO} (e : h[r]? = some o) : r < h.length := (List.getElem?_eq_some_iff.mp e).1
theorem dF {h : EH} {r : Nat} {o : EO} (e : h[r]? = some o) (g : EH) : (h ++ g)[r]? = some o := by rw [List.getElem?_append_left (cC e)]; exact e
def DS (h : EH) (n k : Nat) (v : EV) (d : PyData) : Prop := Dat h n v d ∧ d.showable = true ∧ d.leavesShort 13 = true ∧ d.weight ≤ k
def DSs (h : EH) (n k : Nat) (vs : List EV) (ds : List PyData) : Prop := oH h n vs ds ∧ PyData.showableAll ds = true ∧ PyData.leavesShortAll 13 ds = true ∧ PyData.weightAll ds ≤ k
section
variable {h : EH} {n k j : Nat}
theorem DS.non : DS h n k .non .none := ⟨.non, by simp [PyData.showable], by simp [PyData.leavesShort], by simp [PyData.weight]⟩
theorem log_le {a k : Nat} (h : a < 2 ^ k) (h0 : 0 < k) : a.log2 < k := by
  by_cases z : a = 0
  · subst z; simpa using h0
  · exact (Nat.log2_lt z).mpr h
theorem DS.int {i : Int} (hi : i.natAbs < 10 ^ 12) (hk : 41 ≤ k) : DS h n k (.int i) (.int i) := by
  have l : i.natAbs.log2 < 40 := log_le (Nat.lt_trans hi (by decide)) (by decide)
  refine ⟨.int i, ?_, ?_, ?_⟩
  · rw [PyData.showable.eq_4]
    exact decide_eq_true (by omega)
  · simp only [PyData.leavesShort]
    exact decide_eq_true (PyData.shown_int_le hi)
  · simp only [PyData.weight]
    split <;> omega
theorem DSs.nil : DSs h n k [] [] := ⟨.nil, by simp [PyData.showableAll], by simp [PyData.leavesShortAll], by simp [PyData.weightAll]⟩
theorem DSs.cons {x : EV} {xs : List EV} {d : PyData} {ds : List PyData} {a b : Nat} (hx : DS h n a x d) (hs : DSs h n b xs ds) : DSs h n (a + 1 + b) (x :: xs) (d :: ds) := by
  refine ⟨.cons hx.1 hs.1, ?_, ?_, ?_⟩
  · simp only [PyData.showableAll, hx.2.1, hs.2.1, Bool.and_self]
  · simp only [PyData.leavesShortAll, hx.2.2.1, hs.2.2.1, Bool.and_self]
  · simp only [PyData.weightAll]
    have := hx.2.2.2
    have := hs.2.2.2
    omega
theorem DS.lst {r : Nat} {xs : List EV} {ds : List PyData} (e : h[r]? = some (.lst xs)) (hs : DSs h n k xs ds) : DS h (n + 1) k (.ref r) (.list ds) := by
  refine ⟨.lst e hs.1, ?_, ?_, ?_⟩
  · simpa only [PyData.showable] using hs.2.1
  · simpa only [PyData.leavesShort] using hs.2.2.1
  · simpa only [PyData.weight] using hs.2.2.2
theorem DSs.more {v : List EV} {d : List PyData} (x : DSs h n k v d) (hk : k ≤ j) : DSs h n j v d := ⟨x.1, x.2.1, x.2.2.1, Nat.le_trans x.2.2.2 hk⟩
theorem DS.fits {v : EV} {d : PyData} (x : DS h n k v d) (hk : k ≤ 2 ^ 20) : d.showable = true ∧ d.shown.length ≤ sizeLine := ⟨x.2.1, PyData.shown_fits (by decide) (by decide) x.2.2.1 (Nat.le_trans x.2.2.2 hk)⟩
end
mutual
def pd : EV → PyData
  | .int i => .int i
  | .bl b => .bool b
  | .str s => .str (S s)
  | .tup xs => .tuple (pds xs)
  | _ => .none
def pds : List EV → List PyData
  | [] => []
  | x :: xs => pd x :: pds xs
end
theorem eqE_same {h : EH} {v w : EV} {d : PyData} {P : EK} (a : Dat h 60 v d) (b : Dat h 60 w d) (p : P (.bl true) h) : eqE false v w h P := by
  have fin : ∃ d e, Dat h 60 v d ∧ Dat h 60 w e ∧ P (.bl (false ^^ PyData.eqv d e)) h := ⟨d, d, a, b, by
    rw [PySem.SeqAt.eqv_refl_plain d (Dat.dep d 60 v a).2]; exact p⟩
  cases a <;> cases b <;> first | exact fin | (unfold eqE; simpa using p)
theorem bG : sizeLine = 16777216 := by decide
theorem at0 {α : Type} {x : α} {xs : List α} : atI (x :: xs) 0 = some x := by
  have := L2.atI_nat (xs := x :: xs) (j := 0) (v := x) rfl
  simpa using this
theorem at1 {α : Type} {x y : α} {xs : List α} : atI (x :: y :: xs) 1 = some y := by
  have := L2.atI_nat (xs := x :: y :: xs) (j := 1) (v := y) rfl
  simpa using this
theorem at2 {α : Type} {x y z : α} {xs : List α} : atI (x :: y :: z :: xs) 2 = some z := by
  have := L2.atI_nat (xs := x :: y :: z :: xs) (j := 2) (v := z) rfl
  simpa using this
theorem at3 {α : Type} {x y z u : α} {xs : List α} : atI (x :: y :: z :: u :: xs) 3 = some u := by
  have := L2.atI_nat (xs := x :: y :: z :: u :: xs) (j := 3) (v := u) rfl
  simpa using this
theorem gK {h : EH} {b : Nat} {o u : EO} (e : h[b]? = some u) : (h.set b o)[b]? = some o := List.getElem?_set_self (cC e)
theorem dO {h : EH} {b c : Nat} {o u : EO} (e : h[c]? = some u) (n : c ≠ b) : (h.set b o)[c]? = some u := by rw [List.getElem?_set_ne (fun z => n z.symm)]; exact e
section
variable {h : EH} {P : EK} {r l b c : Nat} {xs ys : List EV} {i j : Int} {v w x : EV}
theorem ix_l (e : h[r]? = some (.lst xs)) (a : atI xs i = some x) (p : P x h) : ixE (.ref r) (.int i) h P := by
  unfold ixE; simp only [e, a]; exact p
theorem ix_t (a : atI xs i = some x) (p : P x h) : ixE (.tup xs) (.int i) h P := by
  unfold ixE; simp only [a]; exact p
theorem sl_l {lo hi : Option Int} (e : h[r]? = some (.lst xs)) (p : P (.ref h.length) (h ++ [.lst (cut xs lo hi)])) : slE (.ref r) lo hi h P := by
  unfold slE; simp only [e]; exact p
theorem add_l (e : h[l]? = some (.lst xs)) (e2 : h[r]? = some (.lst ys)) (hl : xs.length + ys.length ≤ sizeLine) (p : P (.ref h.length) (h ++ [.lst (xs ++ ys)])) : bJ (.ref l) (.ref r) h P := by
  unfold bJ; simp only [e, e2]; exact ⟨hl, p⟩
theorem set_l {k : Nat} {p : EH → Prop} (e : h[b]? = some (.lst xs)) (a : ixN xs.length i = some k) (q : p (h.set b (.lst (xs.set k v)))) : setE (.ref b) (.int i) v h p := by
  unfold setE; simp only [e, a]; exact q
theorem get_l {p : EV → Prop} (e : h[b]? = some (.lst xs)) (h0 : 0 ≤ i) (a : xs[i.toNat]? = some x) (q : p x) : getE (.ref b) (.int i) h p := by
  unfold getE; simp only [e, a]; exact ⟨h0, q⟩
theorem mul_i (c : IntMulOk i j) (p : P (.int (i * j)) h) : oG (.int i) (.int j) h P := ⟨c, p⟩
theorem mod_i (c : 0 < j) (p : P (.int (i % j)) h) : modE (.int i) (.int j) h P := ⟨c, p⟩
theorem div_i (c : 0 < j) (c2 : j < 2 ^ 64) (p : P (.int (i / j)) h) : fdivE (.int i) (.int j) h P := ⟨⟨c, by
  have := log_le (a := j.natAbs) (k := 64) (by omega) (by decide)
  omega⟩, p⟩
theorem pow_i (c : CPow i j) (p : P (.int (i ^ j.toNat)) h) : powE (.int i) (.int j) h P := ⟨c, p⟩
theorem int_i (p : P (.int i) h) : intOf [.int i] h P := p
theorem int_b {q : Bool} (p : P (.int (if q then 1 else 0)) h) : intOf [.bl q] h P := p
theorem lt_i (p : P (.bl (decide (i < j))) h) : ltE (.int i) (.int j) h P := p
theorem le_i (p : P (.bl (decide (i ≤ j))) h) : leE (.int i) (.int j) h P := p
theorem gt_i (p : P (.bl (decide (j < i))) h) : gtE (.int i) (.int j) h P := p
theorem ge_i (p : P (.bl (decide (j ≤ i))) h) : geE (.int i) (.int j) h P := p
theorem iU (p : P (.int (i - j)) h) : dY (.int i) (.int j) h P := p
theorem fU (p : P (.int (i + j)) h) : bJ (.int i) (.int j) h P := p
theorem eq_i {n : Bool} (p : P (.bl (n ^^ decide (i = j))) h) : eqE n (.int i) (.int j) h P := p
theorem eq_s {n : Bool} {s t : List Nat} (p : P (.bl (n ^^ decide (s = t))) h) : eqE n (.str s) (.str t) h P := p
theorem mulOk_r (hj : j.natAbs < 2 ^ 64) : IntMulOk i j := (show CMul i j from .inr (by omega)).ok
theorem mulOk_l (hi : i.natAbs < 2 ^ 64) : IntMulOk i j := (show CMul i j from .inl (by omega)).ok
theorem ins_e (e : h[r]? = some (.lst xs)) (hl : xs.length < sizeLine) (h0 : 0 ≤ i) (h1 : i < 2 ^ 63) (p : P .non (h.set r (.lst (xs.take i.toNat ++ [v] ++ xs.drop i.toNat)))) : insertE (.ref r) [.int i, v] h P := by
  unfold insertE onList; simp only [e]; exact ⟨hl, h0, h1, p⟩
theorem len_l (e : h[r]? = some (.lst xs)) (p : P (.int xs.length) h) : eG [.ref r] h P := by
  unfold eG; simp only [e]; exact p
end
theorem rN {α : Type} (xs : List α) (k : Nat) : cut xs none (some (k : Int)) = xs.take k := by
  unfold cut
  rw [HT.sIx_none, HT.sIx_nat]
  simp only [List.drop_zero, Nat.sub_zero]
  by_cases q : k ≤ xs.length
  · rw [Nat.min_eq_left q]
  · rw [Nat.min_eq_right (by omega), List.take_of_length_le (Nat.le_refl _), List.take_of_length_le (by omega)]
theorem cut_from {α : Type} (xs : List α) (k : Nat) : cut xs (some (k : Int)) none = xs.drop k := by
  unfold cut
  rw [HT.sIx_none, HT.sIx_nat]
  by_cases q : k ≤ xs.length
  · rw [Nat.min_eq_left q, List.take_of_length_le (by simp)]
  · rw [Nat.min_eq_right (by omega), List.take_of_length_le (by simp), List.drop_of_length_le (Nat.le_refl _), List.drop_of_length_le (by omega)]
mutual
/-- nested at most n deep, so at most j -/
theorem Dat.deep' {h : EH} : ∀ (d : PyData) (n j : Nat) (v : EV), n ≤ j → Dat h n v d → Dat h j v d
  | .none, n, j, v, l, a => by cases a; exact .non
  | .bool _, n, j, v, l, a => by cases a; exact .bl _
  | .int _, n, j, v, l, a => by cases a; exact .int _
  | .str _, n, j, v, l, a => by cases a; exact .str _
  | .dict _, n, j, v, l, a => by cases a
  | .tuple ds, n, j, v, l, a => by
    cases a with
    | tup r =>
      cases j with
      | zero => omega
      | succ j => exact .tup (oH.deep' ds _ j _ (by omega) r)
    | ktup r =>
      cases j with
      | zero => omega
      | succ j => exact .ktup (oH.deep' ds _ j _ (by omega) r)
  | .list ds, n, j, v, l, a => by
    cases a with
    | lst e r =>
      cases j with
      | zero => omega
      | succ j => exact .lst e (oH.deep' ds _ j _ (by omega) r)
theorem oH.deep' {h : EH} : ∀ (ds : List PyData) (n j : Nat) (vs : List EV), n ≤ j → oH h n vs ds → oH h j vs ds
  | [], n, j, vs, l, a => by cases a; exact .nil
  | d :: ds, n, j, vs, l, a => by
    cases a with
    | cons a b => exact .cons (Dat.deep' d n j _ l a) (oH.deep' ds n j _ l b)
end
theorem Dat.deep {h : EH} {d : PyData} {n j : Nat} {v : EV} (a : Dat h n v d) (l : n ≤ j) : Dat h j v d := Dat.deep' d n j v l a
theorem cW {h : EH} {i : Nat} {v : EV} {env : En} {P : En → Prop} (p : P (env.set i (some v))) : cH h (.nm i) v env P := p
end Y
namespace Y
open PySem PySem.Spec PyProof.Rows L2
def kEq : EV → EV → Bool
  | .int i, .int j => decide (i = j)
  | .str a, .str b => decide (a = b)
  | _, _ => false
def isKey : EV → Prop
  | .int _ => True
  | .str _ => True
  | _ => False
def qF (kvs : List (EV × EV)) (k : EV) : Option EV := match kvs with
  | [] => none
  | (a, x) :: r => if kEq a k = true then some x else qF r k
def dHas (kvs : List (EV × EV)) (k : EV) : Bool := (qF kvs k).isSome
def dRep (kvs : List (EV × EV)) (k v : EV) : List (EV × EV) := kvs.map fun p => if kEq p.1 k = true then (p.1, v) else p
def dPut (kvs : List (EV × EV)) (k v : EV) : List (EV × EV) := if dHas kvs k = true then dRep kvs k v else kvs ++ [(k, v)]
section
variable {K : PySem.W.Frag} {m : Nat → Addr} {n : Nat} {H : Hp}
theorem key_of {k : EV} {y : V} (hk : isKey k) (r : az K m n H k y) : ∃ k' : L2.Key, y = kV k' := by
  cases k with
  | int i => rw [az] at r; exact ⟨.inl i, r⟩
  | str s => rw [az] at r; exact ⟨.inr (S s), r⟩
  | _ => exact hk.elim
theorem kEq_dec {a k : EV} {x y : L2.Key} (ra : az K m n H a (kV x)) (rk : az K m n H k (kV y)) (hk : isKey k) : kEq a k = decide (x = y) := by
  have no : ∀ {b : Bool} {z : L2.Key}, kV z ≠ V.bl b := fun {b z} => by cases z <;> simp [kV]
  cases k with
  | int j =>
    rw [az] at rk
    cases y with
    | inl j' =>
      have : j' = j := by injection rk
      subst this
      cases a with
      | int i =>
        rw [az] at ra
        cases x with
        | inl i' =>
          have : i' = i := by injection ra
          subst this
          simp [kEq]
        | inr s => cases ra
      | str s =>
        rw [az] at ra
        cases x with
        | inl i' => cases ra
        | inr s' => simp [kEq]
      | non => rw [az] at ra; cases x <;> cases ra
      | bl b => rw [az] at ra; exact absurd ra no
      | tup xs => rw [az] at ra; obtain ⟨_, _, e, _⟩ := ra; cases x <;> cases e
      | ktup xs => rw [az] at ra; obtain ⟨_, _, e, _⟩ := ra; cases x <;> cases e
      | ref r => rw [az] at ra; cases x <;> cases ra.2
      | adr r => rw [az] at ra; cases x <;> cases ra
      | ty r => rw [az] at ra; cases x <;> cases ra
    | inr s => cases rk
  | str t =>
    rw [az] at rk
    cases y with
    | inl j' => cases rk
    | inr t' =>
      have : t' = S t := by injection rk
      subst this
      cases a with
      | int i =>
        rw [az] at ra
        cases x with
        | inl i' => simp [kEq]
        | inr s => cases ra
      | str s =>
        rw [az] at ra
        cases x with
        | inl i' => cases ra
        | inr s' =>
          have : s' = S s := by injection ra
          subst this
          simp only [kEq, Sum.inr.injEq, S_inj]
      | non => rw [az] at ra; cases x <;> cases ra
      | bl b => rw [az] at ra; exact absurd ra no
      | tup xs => rw [az] at ra; obtain ⟨_, _, e, _⟩ := ra; cases x <;> cases e
      | ktup xs => rw [az] at ra; obtain ⟨_, _, e, _⟩ := ra; cases x <;> cases e
      | ref r => rw [az] at ra; cases x <;> cases ra.2
      | adr r => rw [az] at ra; cases x <;> cases ra
      | ty r => rw [az] at ra; cases x <;> cases ra
  | _ => exact hk.elim
theorem bK.get {k : EV} {y : L2.Key} (rk : az K m n H k (kV y)) (hk : isKey k) : ∀ {es : List (EV × EV)} {l : List (L2.Key × V)}, bK K m n H es l →
    (∀ x, qF es k = some x → ∃ v, valV l y = some v ∧ az K m n H x v) ∧ (qF es k = none → valV l y = none)
  | [], l, r => by
    rw [bK] at r
    subst r
    exact ⟨fun x e => by simp [qF] at e, fun _ => rfl⟩
  | (a, x) :: es, l, r => by
    rw [bK] at r
    obtain ⟨a', v, l', rfl, ra, rx, r⟩ := r
    have e := kEq_dec ra rk hk
    have ih := bK.get rk hk r
    unfold qF
    rw [e]
    by_cases q : a' = y
    · rw [decide_eq_true q, if_pos rfl, valV_pos (p := (a', v)) q]
      exact ⟨fun z ez => by cases ez; exact ⟨v, rfl, rx⟩, fun ez => by cases ez⟩
    · rw [decide_eq_false q, if_neg Bool.false_ne_true, valV_neg (p := (a', v)) q]
      exact ih
theorem bK.has {k : EV} {y : L2.Key} {es : List (EV × EV)} {l : List (L2.Key × V)} (rk : az K m n H k (kV y)) (hk : isKey k) (r : bK K m n H es l) : (valV l y).isSome = dHas es k := by
  obtain ⟨h1, h2⟩ := bK.get rk hk r
  unfold dHas
  cases e : qF es k with
  | none => rw [h2 e]; rfl
  | some x => obtain ⟨v, ev, _⟩ := h1 x e; rw [ev]; rfl
theorem bK.app {es fs : List (EV × EV)} {l l' : List (L2.Key × V)} (h : bK K m n H es l) (g : bK K m n H fs l') : bK K m n H (es ++ fs) (l ++ l') := by
  induction es generalizing l with
  | nil => rw [bK] at h; subst h; exact g
  | cons p es ih =>
    obtain ⟨a, x⟩ := p
    rw [bK] at h
    obtain ⟨a', v, l2, rfl, ra, rx, r⟩ := h
    rw [List.cons_append, List.cons_append, bK]
    exact ⟨a', v, _, rfl, ra, rx, ih r⟩
theorem bK.rep {k w : EV} {y : L2.Key} {z : V} (rk : az K m n H k (kV y)) (hk : isKey k) (rw' : az K m n H w z) : ∀ {es : List (EV × EV)} {l : List (L2.Key × V)}, bK K m n H es l →
    bK K m n H (dRep es k w) (l.map fun kv => if kv.1 = y then (kv.1, z) else kv)
  | [], l, r => by rw [bK] at r; subst r; exact rfl
  | (a, x) :: es, l, r => by
    rw [bK] at r
    obtain ⟨a', v, l', rfl, ra, rx, r⟩ := r
    have e := kEq_dec ra rk hk
    have ih := bK.rep rk hk rw' r
    unfold dRep at ih ⊢
    rw [List.map_cons, List.map_cons]
    simp only [e]
    by_cases q : a' = y
    · rw [decide_eq_true q, if_pos rfl, if_pos q, bK]
      exact ⟨a', z, _, rfl, ra, rw', ih⟩
    · rw [decide_eq_false q, if_neg Bool.false_ne_true, if_neg q, bK]
      exact ⟨a', v, _, rfl, ra, rx, ih⟩
theorem bK.put {k w : EV} {y : L2.Key} {z : V} {es : List (EV × EV)} {l : List (L2.Key × V)} (rk : az K m n H k (kV y)) (hk : isKey k) (rw' : az K m n H w z) (r : bK K m n H es l) : bK K m n H (dPut es k w) (putK l y z) := by
  unfold dPut putK
  rw [valV_any, bK.has rk hk r]
  split
  · exact bK.rep rk hk rw' r
  · exact r.app (by rw [bK]; exact ⟨y, z, [], rfl, rk, rw', rfl⟩)
end
def isKeyT (v : EV) : Prop := (keyL v).isSome = true
def dGetT (kvs : List (EV × EV)) (k : EV) : Option EV := match kvs with
  | [] => none
  | (a, x) :: r => if keyL a = keyL k then some x else dGetT r k
def dHasT (kvs : List (EV × EV)) (k : EV) : Bool := (dGetT kvs k).isSome
def dRepT (kvs : List (EV × EV)) (k v : EV) : List (EV × EV) := kvs.map fun p => if keyL p.1 = keyL k then (p.1, v) else p
def dPutT (kvs : List (EV × EV)) (k v : EV) : List (EV × EV) := if dHasT kvs k = true then dRepT kvs k v else kvs ++ [(k, v)]
section
variable {K : PySem.W.Frag} {m : Nat → Addr} {n : Nat} {H : Hp}
theorem keysL_rel : ∀ {ks : List EV} {k' : List L2.Key} {vs : List V}, mY ks = some k' → aG K m n H ks vs → vs = k'.map kV
  | [], k', vs, e, r => by
    rw [mY] at e; cases e
    rw [aG] at r; exact r
  | x :: ks, k', vs, e, r => by
    rw [aG] at r
    obtain ⟨v, l, rfl, a, b⟩ := r
    cases x with
    | int i =>
      rw [mY] at e
      obtain ⟨q, hq, rfl⟩ := Option.map_eq_some_iff.mp e
      rw [az] at a
      rw [a, keysL_rel hq b]; rfl
    | str s =>
      rw [mY] at e
      obtain ⟨q, hq, rfl⟩ := Option.map_eq_some_iff.mp e
      rw [az] at a
      rw [a, keysL_rel hq b]; rfl
    | _ => simp [mY] at e
theorem keyT_of {k : EV} {y : V} (hk : isKeyT k) (r : az K m n H k y) : ∃ k' b, keyL k = some k' ∧ y = .ref b ∧ H b = some (.tup (k'.map kV)) := by
  obtain ⟨k', e⟩ := Option.isSome_iff_exists.mp hk
  cases k with
  | tup ks =>
    rw [az] at r
    obtain ⟨a, vs, rfl, h, r⟩ := r
    exact ⟨k', a, e, rfl, by rw [← keysL_rel e r]; exact h⟩
  | _ => simp [keyL] at e
theorem bY.get {k : EV} {y : List L2.Key} (hk : keyL k = some y) : ∀ {es : List (EV × EV)} {l : List (List L2.Key × V)}, bY K m n H es l →
    (∀ x, dGetT es k = some x → ∃ v, valV l y = some v ∧ az K m n H x v) ∧ (dGetT es k = none → valV l y = none)
  | [], l, r => by
    rw [bY] at r
    subst r
    exact ⟨fun x e => by simp [dGetT] at e, fun _ => rfl⟩
  | (a, x) :: es, l, r => by
    rw [bY] at r
    obtain ⟨a', v, l', rfl, ra, rx, r⟩ := r
    have ih := bY.get hk r
    unfold dGetT
    rw [ra, hk]
    by_cases q : a' = y
    · rw [if_pos (by rw [q]), valV_pos (p := (a', v)) q]
      exact ⟨fun z ez => by cases ez; exact ⟨v, rfl, rx⟩, fun ez => by cases ez⟩
    · rw [if_neg (fun z => q (Option.some.inj z)), valV_neg (p := (a', v)) q]
      exact ih
theorem bY.has {k : EV} {y : List L2.Key} {es : List (EV × EV)} {l : List (List L2.Key × V)} (hk : keyL k = some y) (r : bY K m n H es l) : (valV l y).isSome = dHasT es k := by
  obtain ⟨h1, h2⟩ := bY.get hk r
  unfold dHasT
  cases e : dGetT es k with
  | none => rw [h2 e]; rfl
  | some x => obtain ⟨v, ev, _⟩ := h1 x e; rw [ev]; rfl
theorem bY.app {es fs : List (EV × EV)} {l l' : List (List L2.Key × V)} (h : bY K m n H es l) (g : bY K m n H fs l') : bY K m n H (es ++ fs) (l ++ l') := by
  induction es generalizing l with
  | nil => rw [bY] at h; subst h; exact g
  | cons p es ih =>
    obtain ⟨a, x⟩ := p
    rw [bY] at h
    obtain ⟨a', v, l2, rfl, ra, rx, r⟩ := h
    rw [List.cons_append, List.cons_append, bY]
    exact ⟨a', v, _, rfl, ra, rx, ih r⟩
theorem bY.rep {k w : EV} {y : List L2.Key} {z : V} (hk : keyL k = some y) (rw' : az K m n H w z) : ∀ {es : List (EV × EV)} {l : List (List L2.Key × V)}, bY K m n H es l →
    bY K m n H (dRepT es k w) (l.map fun kv => if kv.1 = y then (kv.1, z) else kv)
  | [], l, r => by rw [bY] at r; subst r; exact rfl
  | (a, x) :: es, l, r => by
    rw [bY] at r
    obtain ⟨a', v, l', rfl, ra, rx, r⟩ := r
    have ih := bY.rep hk rw' r
    unfold dRepT at ih ⊢
    rw [List.map_cons, List.map_cons]
    simp only [ra, hk]
    by_cases q : a' = y
    · rw [if_pos (by rw [q]), if_pos q, bY]
      exact ⟨a', z, _, rfl, ra, rw', by simpa only [hk] using ih⟩
    · rw [if_neg (fun z => q (Option.some.inj z)), if_neg q, bY]
      exact ⟨a', v, _, rfl, ra, rx, by simpa only [hk] using ih⟩
theorem bY.put {k w : EV} {y : List L2.Key} {z : V} {es : List (EV × EV)} {l : List (List L2.Key × V)} (hk : keyL k = some y) (rw' : az K m n H w z) (r : bY K m n H es l) : bY K m n H (dPutT es k w) (putK l y z) := by
  unfold dPutT putK
  rw [valV_any, bY.has hk r]
  split
  · exact bY.rep hk rw' r
  · exact r.app (by rw [bY]; exact ⟨y, z, [], rfl, hk, rw', rfl⟩)
theorem bY.length : ∀ {es : List (EV × EV)} {vs : List (List L2.Key × V)}, bY K m n H es vs → es.length = vs.length
  | [], _, r => by rw [bY] at r; subst r; rfl
  | _ :: _, _, r => by
    rw [bY] at r
    obtain ⟨k, v, l, rfl, _, _, r⟩ := r
    simp [bY.length r]
end
def dgE : LO := fun v w h P => match v with
  | .ref r => match h[r]? with
    | some (.dic kvs) => isKey w ∧ match qF kvs w with
      | some x => P x h
      | none => False
    | some (.dct kvs) => isKeyT w ∧ match dGetT kvs w with
      | some x => P x h
      | none => False
    | _ => False
  | _ => False
def rDg : R2 := fun x y H Q => ∃ a v, x = .ref a ∧ DGet H a y (some v) ∧ Q v H
section
variable {X : Cx}
theorem ix_dg (hu : X.A.units + 1 < cLine) : IxR X rDg := by
  intro value slice pins s σ H x y v u Q I rx ry h hs
  obtain ⟨a, r, rfl, g, q⟩ := h
  obtain rfl : v = Value.ref a := rx
  exact tail_any (dict_typeIs I g) slot_dict_getitem.lookup (d_getItem hu I g ry fun w' s3 I3 rw' => ⟨r, H, I3, rw', q⟩) hs
theorem lop_dg : LOp X.K rDg dgE := by
  intro m h H v w x y P Q R rx ry q k
  unfold dgE at q
  split at q
  · rw [az] at rx
    obtain ⟨_, rfl⟩ := rx
    split at q
    · rename_i e
      obtain ⟨l, a, r⟩ := R.obj _ _ e
      obtain ⟨hk, q⟩ := q
      obtain ⟨k', rfl⟩ := key_of hk ry
      split at q
      · rename_i e2
        obtain ⟨z, ez, rz⟩ := (bK.get ry hk r).1 _ e2
        refine ⟨_, z, rfl, ?_, k.same R q rz⟩
        rw [← ez]
        exact DGet.k a
      · exact q.elim
    · rename_i e
      obtain ⟨l, a, r⟩ := R.obj _ _ e
      obtain ⟨hk, q⟩ := q
      obtain ⟨k', b, ek, rfl, hb⟩ := keyT_of hk ry
      split at q
      · rename_i e2
        obtain ⟨z, ez, rz⟩ := (bY.get ek r).1 _ e2
        refine ⟨_, z, rfl, ?_, k.same R q rz⟩
        rw [← ez]
        exact DGet.t a hb
      · exact q.elim
    · exact q.elim
  · exact q.elim
end
def ixA : LO := fun v w h P => match v with
  | .ref r => match h[r]? with
    | some (.dic _) => dgE v w h P
    | some (.dct _) => dgE v w h P
    | _ => ixE v w h P
  | _ => ixE v w h P
theorem ixA_or {v w : EV} {h : EH} {P : EK} (q : ixA v w h P) : dgE v w h P ∨ ixE v w h P := by
  unfold ixA at q
  split at q
  · split at q
    · exact .inl q
    · exact .inl q
    · exact .inr q
  · exact .inr q
theorem dN {X : Cx} (hu : X.A.units + 1 < cLine) : LIxR X ixA := by
  obtain ⟨r, h, s⟩ := lix (X := X)
  refine ⟨_, IxR.or (ix_dg hu) h, fun m h H v w x y P Q R rx ry q k => ?_⟩
  rcases ixA_or q with q | q
  · exact .inl (lop_dg m h H v w x y P Q R rx ry q k)
  · exact .inr (s m h H v w x y P Q R rx ry q k)
section
variable {h : EH} {P : EK} {r l b c : Nat} {xs ys : List EV} {i j : Int} {v w x : EV} {kvs : List (EV × EV)}
theorem ia_l (e : h[r]? = some (.lst xs)) (a : atI xs i = some x) (p : P x h) : ixA (.ref r) (.int i) h P := by
  unfold ixA; simp only [e]; exact ix_l e a p
theorem ia_t (a : atI xs i = some x) (p : P x h) : ixA (.tup xs) (.int i) h P := ix_t a p
theorem ia_d (e : h[r]? = some (.dic kvs)) (hk : isKey w) (a : qF kvs w = some x) (p : P x h) : ixA (.ref r) w h P := by
  unfold ixA dgE; simp only [e, a]; exact ⟨hk, p⟩
theorem ia_dt (e : h[r]? = some (.dct kvs)) (hk : isKeyT w) (a : dGetT kvs w = some x) (p : P x h) : ixA (.ref r) w h P := by
  unfold ixA dgE; simp only [e, a]; exact ⟨hk, p⟩
end
def pH : EV → Bool
  | .non => true
  | .bl _ => true
  | .int _ => true
  | .str _ => true
  | _ => false
def eqF : EV → EV → Bool
  | .non, .non => true
  | .bl a, .bl b => decide (a = b)
  | .int i, .int j => decide (i = j)
  | .str a, .str b => decide (a = b)
  | .bl b, .int i => decide (i = if b then 1 else 0)
  | .int i, .bl b => decide (i = if b then 1 else 0)
  | _, _ => false
def inF (v : EV) (xs : List EV) : Bool := xs.any fun y => eqF y v
def toV : EV → V
  | .bl b => .bl b
  | .int i => .int i
  | .str s => .str (S s)
  | _ => .non
theorem flat_rel {K : PySem.W.Frag} {m : Nat → Addr} {n : Nat} {H : Hp} {v : EV} {x : V} (f : pH v = true) (r : az K m n H v x) : x = toV v := by
  cases v <;> first | (simp [pH] at f; done) | (rw [az] at r; exact r)
theorem toV_flat {v : EV} (f : pH v = true) : flatV (toV v) = true := by
  cases v <;> first | (simp [pH] at f; done) | rfl
theorem eqF_V {a b : EV} (fa : pH a = true) (fb : pH b = true) : eqV (toV a) (toV b) = eqF a b := by
  cases a <;> cases b <;> first
    | (simp [pH] at fa; done)
    | (simp [pH] at fb; done)
    | rfl
    | (simp only [toV, eqV, eqF]; exact beqD _ _)
    | (simp only [toV, eqV, eqF]; rw [beqD]; exact decide_eq_decide.mpr S_inj)
    | (simp only [toV, eqV, eqF]; rw [beqD]; exact decide_eq_decide.mpr eq_comm)
theorem flats_rel {K : PySem.W.Frag} {m : Nat → Addr} {n : Nat} {H : Hp} : ∀ {es : List EV} {vs : List V}, es.all pH = true → aG K m n H es vs → vs = es.map toV
  | [], vs, _, r => by rw [aG] at r; exact r
  | e :: es, vs, f, r => by
    rw [aG] at r
    obtain ⟨v, l, rfl, a, b⟩ := r
    simp only [List.all_cons, Bool.and_eq_true] at f
    rw [flat_rel f.1 a, flats_rel f.2 b]; rfl
theorem inF_V {v : EV} {xs : List EV} (fv : pH v = true) (fs : xs.all pH = true) : inV (toV v) (xs.map toV) = inF v xs := by
  unfold inV inF
  induction xs with
  | nil => rfl
  | cons x xs ih =>
    simp only [List.all_cons, Bool.and_eq_true] at fs
    rw [List.map_cons, List.any_cons, List.any_cons, ih fs.2, eqF_V fs.1 fv]
def inSq (neg : Bool) (v : EV) (xs : List EV) (P : EV → Prop) : Prop := pH v = true ∧ xs.all pH = true ∧ P (.bl (neg ^^ inF v xs))
def inA (neg : Bool) : LO := fun v w h P => match w with
  | .tup xs => inSq neg v xs fun b => P b h
  | .ktup xs => inSq neg v xs fun b => P b h
  | .str z => match v with
    | .str [c] => P (.bl (neg ^^ decide (c ∈ z))) h
    | _ => False
  | .ref r => match h[r]? with
    | some (.dic kvs) => isKey v ∧ P (.bl (neg ^^ dHas kvs v)) h
    | some (.dct kvs) => isKeyT v ∧ P (.bl (neg ^^ dHasT kvs v)) h
    | some (.lst xs) => (inSq neg v xs fun b => P b h) ∨ ∃ d ds, Dat h 60 v d ∧ oH h 59 xs ds ∧ PySem.SeqAt.shaped d = true ∧ PySem.SeqAt.shaped (.list ds) = true ∧ P (.bl (neg ^^ ds.any fun z => PyData.eqv z d)) h
    | some (.frz xs) => inSq neg v xs fun b => P b h
    | _ => False
  | _ => False
def rInDic (neg : Bool) : R2 := fun y x H Q => ∃ a o, x = .ref a ∧ DGet H a y o ∧ Q (.bl (neg ^^ o.isSome)) H
section
variable {X : Cx}
theorem inA_sim {neg : Bool} {m : Nat → Addr} {h : EH} {H : Hp} {v w : EV} {x y : V} {P : EK} {Q : VK} (R : dD X.K m h H) (rx : az X.K m h.length H v x) (ry : az X.K m h.length H w y) (q : inA neg v w h P) (k : Kon X.K m h.length H P Q) :
    rInDic neg x y H Q ∨ (∃ p xs, y = .ref p ∧ (SqL X.K H p xs ∨ SqT X.K H p xs) ∧ flatV x = true ∧ xs.all flatV = true ∧ Q (.bl (neg ^^ inV x xs)) H) ∨
      (∃ d ds, Dp X.K H x d ∧ Dp X.K H y (.list ds) ∧ PySem.SeqAt.shaped d = true ∧ PySem.SeqAt.shaped (.list ds) = true ∧ Q (.bl (neg ^^ ds.any fun z => PyData.eqv z d)) H) ∨
      ∃ (c : Nat) (z : Str), x = .str ⟨#[c]⟩ ∧ y = .str z ∧ Q (.bl (neg ^^ decide (c ∈ z.cps.toList))) H := by
  have seq : ∀ {p : Addr} {xs : List EV} {vs : List V}, y = .ref p → (SqL X.K H p vs ∨ SqT X.K H p vs) → aG X.K m h.length H xs vs → (inSq neg v xs fun b => P b h) →
      ∃ p xs, y = .ref p ∧ (SqL X.K H p xs ∨ SqT X.K H p xs) ∧ flatV x = true ∧ xs.all flatV = true ∧ Q (.bl (neg ^^ inV x xs)) H := by
    intro p xs vs ey hs r ⟨f1, f2, q⟩
    have e1 := flat_rel f1 rx
    have e2 := flats_rel f2 r
    subst e1 e2
    refine ⟨p, _, ey, hs, toV_flat f1, ?_, by rw [inF_V f1 f2]; exact k.same R q (by rw [az])⟩
    rw [List.all_map]
    rw [List.all_eq_true] at f2 ⊢
    exact fun z hz => toV_flat (f2 z hz)
  unfold inA at q
  split at q
  · rw [az] at ry
    obtain ⟨a, vs, rfl, hs, r⟩ := ry
    exact .inr (.inl (seq rfl (.inr (SqT.of hs)) r q))
  · rw [az] at ry
    obtain ⟨a, vs, rfl, hs, r⟩ := ry
    exact .inr (.inl (seq rfl (.inr hs) r q))
  · split at q
    · rw [az] at rx ry
      refine .inr (.inr (.inr ⟨_, _, rx, ry, ?_⟩))
      have := k.same R q (by rw [az])
      simpa using this
    · exact q.elim
  · have ry0 := ry
    rw [az] at ry
    obtain ⟨_, rfl⟩ := ry
    split at q
    · rename_i e
      obtain ⟨l, a, r⟩ := R.obj _ _ e
      obtain ⟨hk, q⟩ := q
      obtain ⟨k', rfl⟩ := key_of hk rx
      refine .inl ⟨_, _, rfl, DGet.k a, ?_⟩
      rw [bK.has rx hk r]
      exact k.same R q (by rw [az])
    · rename_i e
      obtain ⟨l, a, r⟩ := R.obj _ _ e
      obtain ⟨hk, q⟩ := q
      obtain ⟨k', b, ek, rfl, hb⟩ := keyT_of hk rx
      refine .inl ⟨_, _, rfl, DGet.t a hb, ?_⟩
      rw [bY.has ek r]
      exact k.same R q (by rw [az])
    · rename_i e
      obtain ⟨vs, a, r⟩ := R.obj _ _ e
      rcases q with q | ⟨d, ds, d1, d2, s1, s2, q⟩
      · exact .inr (.inl (seq rfl (.inl (SqL.of a)) r q))
      · exact .inr (.inr (.inl ⟨d, ds, Dat.dp R _ _ _ _ d1 rx, Dat.dp R (.list ds) 60 _ _ (.lst e d2) ry0, s1, s2, k.same R q (by rw [az])⟩))
    · rename_i e
      obtain ⟨vs, a, r⟩ := R.obj _ _ e
      exact .inr (.inl (seq rfl (.inl a.sql) r q))
    · exact q.elim
  · exact q.elim
theorem lo_in (hu : X.A.units + 65 < cLine) : pW X (compareOp .In) (inA false) := by
  have od : OpR X (compareOp .In) (rInDic false) := by
    intro pins s σ H x y v u Q I rx ry ⟨a, o, ey, g, q⟩
    subst ey
    obtain rfl : u = Value.ref a := ry
    exact d_in (by omega) I g rx fun s3 I3 => ⟨.bl o.isSome, H, I3, rfl, by simpa using q⟩
  refine ⟨_, OpR.or od (OpR.or op_in_seq (OpR.or (op_inD hu) op_in_sign)), fun m h H v w x y P Q R rx ry q k => ?_⟩
  rcases inA_sim R rx ry q k with q | ⟨p, xs, e, a, b, c, q⟩ | ⟨d, ds, a, b, c, e, q⟩ | ⟨c, z, e1, e2, q⟩
  · exact .inl q
  · exact .inr (.inl ⟨p, xs, e, a, b, c, by simpa using q⟩)
  · exact .inr (.inr (.inl ⟨d, ds, a, b, c, e, by simpa using q⟩))
  · exact .inr (.inr (.inr ⟨c, z, e1, e2, by simpa using q⟩))
theorem lo_nin (hu : X.A.units + 65 < cLine) : pW X (compareOp .NotIn) (inA true) := by
  have od : OpR X (compareOp .NotIn) (rInDic true) := by
    intro pins s σ H x y v u Q I rx ry ⟨a, o, ey, g, q⟩
    subst ey
    obtain rfl : u = Value.ref a := ry
    exact d_notIn (by omega) I g rx fun s3 I3 => ⟨.bl (!o.isSome), H, I3, rfl, by simpa using q⟩
  refine ⟨_, OpR.or od (OpR.or op_notIn_seq (OpR.or (op_notInD hu) op_notIn_sign)), fun m h H v w x y P Q R rx ry q k => ?_⟩
  rcases inA_sim R rx ry q k with q | ⟨p, xs, e, a, b, c, q⟩ | ⟨d, ds, a, b, c, e, q⟩ | ⟨c, z, e1, e2, q⟩
  · exact .inl q
  · exact .inr (.inl ⟨p, xs, e, a, b, c, by simpa using q⟩)
  · exact .inr (.inr (.inl ⟨d, ds, a, b, c, e, by simpa using q⟩))
  · exact .inr (.inr (.inr ⟨c, z, e1, e2, by simpa using q⟩))
end
def lDnewT : LT := fun _ h P => P (.ref h.length) (h ++ [.dct []])
def setA (o i v : EV) (h : EH) (P : EH → Prop) : Prop := match o with
  | .ref r => match h[r]? with
    | some (.dic kvs) => isKey i ∧ kvs.length < sizeLine ∧ P (h.set r (.dic (dPut kvs i v)))
    | some (.dct kvs) => isKeyT i ∧ kvs.length < sizeLine ∧ P (h.set r (.dct (dPutT kvs i v)))
    | _ => setE o i v h P
  | _ => setE o i v h P
def rSetA : TSet := fun x y z H Q => rSetL x y z H Q ∨ ∃ a H4, x = .ref a ∧ DPut H a y z H4 ∧ Q H4
section
variable {X : Cx} {pos : Pos}
theorem le_dnewT : LE X (.Dict [] [] pos) lDnewT := by
  refine ⟨PE.imp pe_dnewT fun σ H Q ⟨m, env, h, P, at_, t1, k⟩ p hp => ?_⟩
  have E : Ex X.K m h.length H (mput m h.length p) (h ++ [EO.dct []]).length (upd H p (.dT [])) := Ex.new hp
  have R : dD X.K (mput m h.length p) (h ++ [EO.dct []]) (upd H p (.dT [])) := at_.hp.new hp ⟨[], upd_same, rfl⟩
  exact k _ _ t1 _ _ _ E R (by rw [az]; exact ⟨by simp, by rw [lU]⟩)
theorem set_any (hu : X.A.units + 1 < cLine) : PSet X rSetA := by
  intro pins s σ H o i v ov iv u Q I ro ri rv h
  rcases h with h | ⟨a, H4, rfl, g, q⟩
  · exact set_list pins s σ H o i v ov iv u Q I ro ri rv h
  · obtain rfl : ov = Value.ref a := ro
    exact d_setItem hu I g ri rv fun s4 I4 => ⟨H4, I4, q⟩
theorem setA_sim {K : PySem.W.Frag} {m : Nat → Addr} {h : EH} {H : Hp} {o i v : EV} {x y z : V} {P : EH → Prop} {Q : Hp → Prop} (R : dD K m h H) (rx : az K m h.length H o x) (ry : az K m h.length H i y) (rz : az K m h.length H v z) (q : setA o i v h P)
    (k : ∀ h', P h' → ∀ H', Ex K m h.length H m h'.length H' → dD K m h' H' → Q H') : rSetA x y z H Q := by
  unfold setA at q
  split at q
  · split at q
    · rename_i kvs e
      rw [az] at rx
      obtain ⟨_, rfl⟩ := rx
      obtain ⟨hk, hl, q⟩ := q
      obtain ⟨l, a, r⟩ := R.obj _ _ e
      obtain ⟨k', rfl⟩ := key_of hk ry
      have ll := bK.length r
      refine .inr ⟨_, _, rfl, DPut.k a (by omega), ?_⟩
      have E := Ex.write (o := .dK (putK l k' z)) (e' := EO.dic (dPut kvs i v)) R e
      exact k _ q _ E (R.write e ⟨_, upd_same, bK.put (az.ex E _ _ ry) hk (az.ex E _ _ rz) (r.ex E)⟩)
    · rename_i kvs e
      rw [az] at rx
      obtain ⟨_, rfl⟩ := rx
      obtain ⟨hk, hl, q⟩ := q
      obtain ⟨l, a, r⟩ := R.obj _ _ e
      obtain ⟨k', b, ek, rfl, hb⟩ := keyT_of hk ry
      have ll := bY.length r
      refine .inr ⟨_, _, rfl, DPut.t a hb (by omega), ?_⟩
      have E := Ex.write (o := .dT (putK l k' z)) (e' := EO.dct (dPutT kvs i v)) R e
      exact k _ q _ E (R.write e ⟨_, upd_same, bY.put ek (az.ex E _ _ rz) (r.ex E)⟩)
    · exact .inl (set_sim R rx ry rz q k)
  · exact .inl (set_sim R rx ry rz q k)
def bu (to ti te : LT) : LS := fun D env h => te env h fun v h1 => to env h1 fun o h2 => ti env h2 fun i h3 => setA o i v h3 fun h4 => D.nx env h4
theorem oZ {o i e : Expr} {to ti te : LT} {tpos : Pos} (hu : X.A.units + 1 < cLine) (he : LE X e te) (ho : LE X o to) (hi : LE X i ti) (ha : ∀ v, assign (.Subscript o i tpos) X.env v = (do
      let ov ← holding [v] (eval o X.env)
      let iv ← holding [v, ov] (eval i X.env)
      standAt tpos
      holding [v, ov, iv] (setItem ov iv v)
      release [v, ov, iv] []) := by intro _; rfl) (hs : swapsWithSole [.Subscript o i tpos] e pos.line X.env = pure false := by rfl) (hw : swappedStores [.Subscript o i tpos] e X.env = pure none := by rfl)
    (h1 : (assignEach [.Subscript o i tpos] X.env).map (·.2) = [assign (.Subscript o i tpos) X.env] := by rfl) : LSt X (.Assign [.Subscript o i tpos] e pos) (bu to ti te) :=
  ⟨PS.imp (ps_asg he.pe (pg_sub ho.pe hi.pe (set_any hu) ha) hs hw h1) fun D σ H ⟨m, env, h, P, at_, t1, k⟩ => ⟨m, env, h, _, at_, t1, fun v h1 p1 m1 H1 x E1 R1 r1 =>
    ⟨m1, env, h1, _, at_.ex E1 R1, p1, fun o h2 p2 m2 H2 y E2 R2 r2 => ⟨m2, env, h2, _, (at_.ex E1 R1).ex E2 R2, p2, fun i h3 p3 m3 H3 z E3 R3 r3 =>
      setA_sim R3 (az.ex E3 _ _ r2) r3 (az.ex (E2.trans E3) _ _ r1) p3 fun h4 p4 H4 E4 R4 => k.nx _ _ p4 m3 H4 σ (((E1.trans E2).trans E3).trans E4) ((((at_.ex E1 R1).ex E2 R2).ex E3 R3).ex E4 R4)⟩⟩⟩⟩
def itemsE (v : EV) (h : EH) (P : List EV → Prop) : Prop := match v with
  | .tup xs => P xs
  | .ref r => match h[r]? with
    | some (.lst xs) => P xs
    | some (.frz xs) => P xs
    | _ => False
  | _ => False
def lStar (te : LT) (t : LA) : LA := fun env h P => te env h fun v h1 => itemsE v h1 fun xs => t env h1 fun ys h2 => P (xs ++ ys) h2
theorem la_star {e : Expr} {es : List Expr} {te : LT} {t : LA} {p : Pos} (he : LE X e te) (hr : LAs X es t) (hs : starEach (.Starred e p :: es) X.env = (true, eval e X.env) :: starEach es X.env := by rfl) : LAs X (.Starred e p :: es) (lStar te t) := by
  refine ⟨PA.imp (StX.pa_star he.pe hr.pa hs) fun σ H Q ⟨m, env, h, P, at_, t1, k⟩ => ⟨m, env, h, _, at_, t1, fun v h1 p1 m1 H1 x E1 R1 r1 => ?_⟩⟩
  have fin : ∀ {xs : List EV} {a : Addr} {vs : List V}, x = .ref a → (SqT X.K H1 a vs ∨ SqL X.K H1 a vs) → aG X.K m1 h1.length H1 xs vs → (t env h1 fun ys h2 => P (xs ++ ys) h2) →
      ∃ p ws, x = .ref p ∧ (SqT X.K H1 p ws ∨ SqL X.K H1 p ws) ∧ upA X.K t σ H1 fun ys H2 => Q (ws ++ ys) H2 := by
    intro xs a vs ex hs r q
    exact ⟨a, vs, ex, hs, m1, env, h1, _, at_.ex E1 R1, q, fun ys h2 p2 m2 H2 ws E2 R2 r2 => k _ _ p2 m2 H2 _ (E1.trans E2) R2 ((aG.ex E2 _ _ r).app r2)⟩
  unfold itemsE at p1
  split at p1
  · rw [az] at r1
    obtain ⟨a, vs, rfl, hs, r⟩ := r1
    exact fin rfl (.inl (SqT.of hs)) r p1
  · rw [az] at r1
    obtain ⟨_, rfl⟩ := r1
    split at p1
    · rename_i e
      obtain ⟨vs, a, r⟩ := R1.obj _ _ e
      exact fin rfl (.inr (SqL.of a)) r p1
    · rename_i e
      obtain ⟨vs, a, r⟩ := R1.obj _ _ e
      exact fin rfl (.inr a.sql) r p1
    · exact p1.elim
  · exact p1.elim
def minE : LC := fun vs h P => match vs with
  | [.ref r] => match h[r]? with
    | some (.lst xs) => ∃ ns : List Int, xs = ns.map EV.int ∧ ns ≠ [] ∧ ∀ m, m ∈ ns → (∀ y ∈ ns, m ≤ y) → P (.int m) h
    | _ => False
  | [.int i, .int j] => P (.int (if j < i then j else i)) h
  | _ => False
theorem lc_min (hc : X.calm = true) : oh X (.builtin "min") minE := by
  refine ⟨_, CallR.or (cr_min hc) (call_min2 hc), fun m h H vs xs P Q R r0 q k => ?_⟩
  unfold minE at q
  split at q
  · obtain ⟨v, rfl, r⟩ := r0.one_inv
    rw [az] at r
    obtain ⟨_, rfl⟩ := r
    split at q
    · rename_i e
      obtain ⟨us, a, r⟩ := R.obj _ _ e
      obtain ⟨ns, rfl, ne, q⟩ := q
      have := r.ints
      subst this
      exact .inl ⟨_, ns, rfl, SqL.of a, List.length_pos_iff.mpr ne, fun z h1 h2 => k.same R (q z h1 h2) (by rw [az])⟩
    · exact q.elim
  · obtain ⟨v, w, rfl, r1, r2⟩ := r0.two_inv
    rw [az] at r1
    rw [az] at r2
    subst r1 r2
    exact .inr ⟨_, _, rfl, k.same R q (by rw [az])⟩
  · exact q.elim
theorem aG.bools {K : PySem.W.Frag} {m : Nat → Addr} {n : Nat} {H : Hp} : ∀ {ns : List Bool} {vs : List V}, aG K m n H (ns.map EV.bl) vs → vs = ns.map V.bl
  | [], _, r => by rw [List.map_nil, aG] at r; exact r
  | i :: l, _, r => by
    rw [List.map_cons, aG] at r
    obtain ⟨v, t, rfl, a, b⟩ := r
    rw [az] at a
    rw [a, aG.bools b]; rfl
def quE (f : List Bool → Bool) : LC := fun vs h P => match vs with
  | [.ref r] => match h[r]? with
    | some (.lst xs) => ∃ bs : List Bool, xs = bs.map EV.bl ∧ P (.bl (f bs)) h
    | _ => False
  | _ => False
abbrev allE : LC := quE fun bs => bs.all id
abbrev anyE : LC := quE fun bs => bs.any id
theorem lc_all (hc : X.calm = true) : oh X (.builtin "all") allE := by
  refine ⟨_, cr_all hc, fun m h H vs xs P Q R r0 q k => ?_⟩
  unfold allE quE at q
  split at q
  · obtain ⟨v, rfl, r⟩ := r0.one_inv
    rw [az] at r
    obtain ⟨_, rfl⟩ := r
    split at q
    · rename_i e
      obtain ⟨us, a, r⟩ := R.obj _ _ e
      obtain ⟨ns, rfl, q⟩ := q
      have := r.bools
      subst this
      exact ⟨_, ns, rfl, SqL.of a, k.same R q (by rw [az])⟩
    · exact q.elim
  · exact q.elim
theorem lc_any (hc : X.calm = true) : oh X (.builtin "any") anyE := by
  refine ⟨_, cr_any hc, fun m h H vs xs P Q R r0 q k => ?_⟩
  unfold anyE quE at q
  split at q
  · obtain ⟨v, rfl, r⟩ := r0.one_inv
    rw [az] at r
    obtain ⟨_, rfl⟩ := r
    split at q
    · rename_i e
      obtain ⟨us, a, r⟩ := R.obj _ _ e
      obtain ⟨ns, rfl, q⟩ := q
      have := r.bools
      subst this
      exact ⟨_, ns, rfl, SqL.of a, k.same R q (by rw [az])⟩
    · exact q.elim
  · exact q.elim
end
section
variable {X : Cx} {pos : Pos}
theorem up_lc (own : List (Str × Nat)) {ti : LI} {p : Pat} {tt : LTt} {te : LT} (hp : ∀ i ∈ Pat.slots p, i ∈ own.map (·.2)) (σ : L2.St) (H : Hp) (Q : VK) (q : up X.K (lLc ti p tt te (own.map (·.2))) σ H Q) :
    tLc (upI X.K ti) (gP X.K p) (upT X.K tt) (up X.K te) (own.map (·.2)) σ H Q := by
  obtain ⟨m, env, h, P, at_, t1, k⟩ := q
  refine ⟨m, env, h, _, at_, t1, fun g xs h1 p1 m1 H1 J E1 R1 sim D hD => ?_⟩
  have E2 : Ex X.K m1 h1.length H1 (mput m1 h1.length D) (h1 ++ [EO.lst []]).length (upd H1 D (.lst [])) := Ex.new hD
  have R2 : dD X.K (mput m1 h1.length D) (h1 ++ [EO.lst []]) (upd H1 D (.lst [])) := R1.new hD ⟨[], upd_same, .nil⟩
  refine ⟨fun i c H' => c = xs.length - i ∧ i ≤ xs.length ∧ ∃ m2 h2, Ex X.K m1 h1.length H1 m2 h2.length H' ∧ dD X.K m2 h2 H' ∧ m2 h1.length = D ∧ h1.length < h2.length ∧ lcE g p tt te h1.length (aZ env (own.map (·.2))) P (xs.drop i) h2,
    ⟨xs.length, by simp, Nat.zero_le _, _, _, E2, R2, lU, by simp, by simpa using p1⟩, ?_⟩
  rintro i c H' ⟨rfl, hi, m2, h2, E3, R3, eD, lD, q⟩
  by_cases hlt : i < xs.length
  · have ed : xs.drop i = xs[i] :: xs.drop (i + 1) := List.drop_eq_getElem_cons hlt
    rw [ed, lcE] at q
    obtain ⟨qg, q⟩ := q
    obtain ⟨s1, s2⟩ := sim i h2 m2 H' E3 R3 qg
    obtain ⟨go, yl⟩ := s1 xs[i] (List.getElem?_eq_getElem hlt)
    refine .inr ⟨go, fun H4 => ∃ m4 h4, Ex X.K m1 h1.length H1 m4 h4.length H4 ∧ dD X.K m4 h4 H4 ∧ m4 h1.length = D ∧ h1.length < h4.length ∧ lcE g p tt te h1.length (aZ env (own.map (·.2))) P (xs.drop (i + 1)) h4,
      fun H4 q4 => ⟨xs.length - (i + 1), by omega, rfl, hlt, q4⟩, fun v H4 y => ?_⟩
    obtain ⟨E4, R4, r4⟩ := yl v H4 y
    have E14 := (E1.trans E3).trans E4
    obtain ⟨env5, σ5, q5, f, N5, keep, len⟩ := rE R4 ((at_.nm.ex E14).wipe (own.map (·.2))) r4 q
    refine f _ ⟨wipe_back (ss := Pat.slots p) keep hp (by rw [len, wipe_length]), m2, env5, h2, _, ⟨R4, N5⟩, q5, fun b h6 p6 m6 H6 E6 R6 => ?_⟩
    have E16 := (E3.trans E4).trans E6
    have lt2 := E6.le
    have eD6 : m6 h1.length = D := (E6.eq _ lD).trans eD
    cases b with
    | false =>
      dsimp only
      rw [if_neg Bool.false_ne_true] at p6 ⊢
      exact ⟨m6, h6, E16, R6, eD6, by omega, p6⟩
    | true =>
      dsimp only
      rw [if_pos rfl] at p6 ⊢
      refine ⟨m6, env5, h6, _, ⟨R6, N5.ex E6⟩, p6, fun w h7 p7 m7 H7 y7 E7 R7 r7 => ?_⟩
      have lt7 := E7.le
      have eD7 : m7 h1.length = D := (E7.eq _ (by omega)).trans eD6
      split at p7
      · rename_i acc e7
        obtain ⟨vs, a, r⟩ := R7.obj _ _ e7
        rw [eD7] at a
        refine ⟨vs, a, by rw [← r.length]; exact p7.1, ?_⟩
        have E8 := Ex.write (o := .lst (vs ++ [y7])) (e' := EO.lst (acc ++ [w])) R7 e7
        have R8 := R7.write (o := .lst (vs ++ [y7])) (e' := EO.lst (acc ++ [w])) e7 ⟨_, upd_same, (aG.ex E8 _ _ r).app (.one (az.ex E8 _ _ r7))⟩
        rw [eD7] at E8 R8
        exact ⟨m7, _, (E16.trans E7).trans E8, R8, eD7, by simp; omega, p7.2⟩
      · exact p7.elim
  · have e : i = xs.length := by omega
    subst e
    rw [List.drop_length, lcE] at q
    obtain ⟨_, s2⟩ := sim xs.length h2 m2 H' E3 R3 q.1
    refine .inl ⟨s2 rfl, k _ _ q.2 m2 H' _ (E1.trans E3) R3 (by rw [az]; exact ⟨lD, by rw [eD]⟩)⟩
theorem rD (i : Nat) {y : Str} {py : Pos} {elt tg iter : Expr} {ifs : List Expr} {scope : Scope} (own : List (Str × Nat)) {spos : Pos} {ti : LI} {p : Pat} {tt : LTt} {te : LT} (hc : X.calm = true) (hN : X.N.Nodup) (hi : LIt X tg iter ti) (ok : BlkOk X.N X.env.scope scope own)
    (hp : ∀ i ∈ Pat.slots p, i ∈ own.map (·.2))
    (hg : ∀ (s : Shared) (H : Hp) (C : Addr) (cl : List (Str × Addr)) (fp : List Addr), LG (X.blk s H scope (compEnvC scope cl C X.env) fp) tg p)
    (ht : ∀ (s : Shared) (H : Hp) (C : Addr) (cl : List (Str × Addr)) (fp : List Addr), LTs (X.blk s H scope (compEnvC scope cl C X.env) fp) ifs tt)
    (he : ∀ (s : Shared) (H : Hp) (C : Addr) (cl : List (Str × Addr)) (fp : List Addr), LE (X.blk s H scope (compEnvC scope cl C X.env) fp) elt te) (hy : X.N[i]? = some y := by rfl) (hyl : X.env.scope.names.lookup y = some .local := by rfl)
    (hsw : swapsWith (.ListComp elt [⟨tg, iter, ifs, 0⟩] scope pos) (some (.Name y py)) spos.line X.env = pure true := by exact sw_true rfl rfl rfl (by decide +kernel)) (hs : ∀ x, foldedSetIterable iter X.env x = pure x := by intro _; rfl) :
    LSt X (.Assign [.Name y py] (.ListComp elt [⟨tg, iter, ifs, 0⟩] scope pos) spos) (aU (lLc ti p tt te (own.map (·.2))) i) :=
  ⟨PS.imp (ps_setLc (g := gP X.K p) (tt := upT X.K tt) (te := up X.K te) hc hN hy hyl hsw hi.pi ok (fun s H C cl fp => (hg s H C cl fp).pg) (fun s H C cl fp => (ht s H C cl fp).pts) (fun s H C cl fp => (he s H C cl fp).pe) hs) fun D σ H ⟨m, env, h, P, at_, t1, k⟩ =>
    up_lc own hp σ H _ ⟨m, env, h, fun v h1 => P.nx (env.set i (some v)) h1, at_, t1, fun v h1 p1 m1 H1 x E1 R1 r1 => k.nx _ _ p1 m1 H1 _ E1 ⟨R1, (at_.nm.ex E1).set r1 i⟩⟩⟩
end
def lcI (g : EH → Prop) (p : Pat) (tt : LTt) (te : LT) (d : Nat) (env : En) (k : EH → Prop) : List EV → EH → Prop
  | [], h => g h ∧ k h
  | x :: xs, h => g h ∧ cH h p x env fun env2 => tt env2 h fun b h3 => if b = true then te env2 h3 fun y h4 => match h4[d]? with
      | some (.lst acc) => acc.length < sizeLine ∧ lcI g p tt te d env k xs (h4.set d (.lst (acc ++ [y])))
      | _ => False
    else lcI g p tt te d env k xs h3
def lcO (g : EH → Prop) (p : Pat) (tt : LTt) (ti1 : LI) (p1 : Pat) (tt1 : LTt) (te : LT) (d : Nat) (vs1 : List Nat) (env : En) (P : EK) : List EV → EH → Prop
  | [], h => g h ∧ P (.ref d) h
  | x :: xs, h => g h ∧ cH h p x env fun env2 => tt env2 h fun b h3 => if b = true then ti1 env2 h3 fun g1 ys h4 => lcI g1 p1 tt1 te d (aZ env2 vs1) (fun h5 => lcO g p tt ti1 p1 tt1 te d vs1 env P xs h5) ys h4
    else lcO g p tt ti1 p1 tt1 te d vs1 env P xs h3
def lLc2 (ti : LI) (p : Pat) (tt : LTt) (ti1 : LI) (p1 : Pat) (tt1 : LTt) (te : LT) (vs vs1 : List Nat) : LT := fun env h P => ti env h fun g xs h1 => lcO g p tt ti1 p1 tt1 te h1.length vs1 (aZ env vs) P xs (h1 ++ [.lst []])
section
variable {X : Cx} {pos : Pos}
theorem up_lc2 (own : List (Str × Nat)) {ti ti1 : LI} {p p1 : Pat} {tt tt1 : LTt} {te : LT} {vs1 : List Nat} (hp : ∀ i ∈ Pat.slots p, i ∈ own.map (·.2)) (hp1 : ∀ i ∈ Pat.slots p1, i ∈ vs1) (σ : L2.St) (H : Hp) (Q : VK) (q : up X.K (lLc2 ti p tt ti1 p1 tt1 te (own.map (·.2)) vs1) σ H Q) :
    tLc2 (upI X.K ti) (gP X.K p) (upT X.K tt) (upI X.K ti1) (gP X.K p1) (upT X.K tt1) (up X.K te) (own.map (·.2)) vs1 σ H Q := by
  obtain ⟨m, env, h, P, at_, t1, k⟩ := q
  refine ⟨m, env, h, _, at_, t1, fun g xs h1 q1 m1 H1 J E1 R1 sim D hD => ?_⟩
  have E2 : Ex X.K m1 h1.length H1 (mput m1 h1.length D) (h1 ++ [EO.lst []]).length (upd H1 D (.lst [])) := Ex.new hD
  have R2 : dD X.K (mput m1 h1.length D) (h1 ++ [EO.lst []]) (upd H1 D (.lst [])) := R1.new hD ⟨[], upd_same, .nil⟩
  let I : Nat → Hp → Prop := fun i H' => ∃ m2 h2, Ex X.K m1 h1.length H1 m2 h2.length H' ∧ dD X.K m2 h2 H' ∧ m2 h1.length = D ∧ h1.length < h2.length ∧ lcO g p tt ti1 p1 tt1 te h1.length vs1 (aZ env (own.map (·.2))) P (xs.drop i) h2
  refine ⟨fun i c H' => c = xs.length - i ∧ i ≤ xs.length ∧ I i H', ⟨xs.length, by simp, Nat.zero_le _, _, _, E2, R2, lU, by simp, by simpa using q1⟩, ?_⟩
  rintro i c H' ⟨rfl, hi, m2, h2, E3, R3, eD, lD, q⟩
  by_cases hlt : i < xs.length
  · have ed : xs.drop i = xs[i] :: xs.drop (i + 1) := List.drop_eq_getElem_cons hlt
    rw [ed, lcO] at q
    obtain ⟨qg, q⟩ := q
    obtain ⟨s1, s2⟩ := sim i h2 m2 H' E3 R3 qg
    obtain ⟨go, yl⟩ := s1 xs[i] (List.getElem?_eq_getElem hlt)
    refine .inr ⟨go, I (i + 1), fun H4 q4 => ⟨xs.length - (i + 1), by omega, rfl, hlt, q4⟩, fun v H4 y => ?_⟩
    obtain ⟨E4, R4, r4⟩ := yl v H4 y
    have E14 := (E1.trans E3).trans E4
    obtain ⟨env5, σ5, q5, f, N5, keep, len⟩ := rE R4 ((at_.nm.ex E14).wipe (own.map (·.2))) r4 q
    refine f _ ⟨wipe_back (ss := Pat.slots p) keep hp (by rw [len, wipe_length]), m2, env5, h2, _, ⟨R4, N5⟩, q5, fun b h6 p6 m6 H6 E6 R6 => ?_⟩
    have E16 := (E3.trans E4).trans E6
    have lt2 := E6.le
    have eD6 : m6 h1.length = D := (E6.eq _ lD).trans eD
    cases b with
    | false =>
      dsimp only
      rw [if_neg Bool.false_ne_true] at p6 ⊢
      exact ⟨m6, h6, E16, R6, eD6, by omega, p6⟩
    | true =>
      dsimp only
      rw [if_pos rfl] at p6 ⊢
      refine ⟨m6, env5, h6, _, ⟨R6, N5.ex E6⟩, p6, fun g1 ys h7 p7 m7 H7 J1 E7 R7 sim1 => ?_⟩
      have lt7 := E7.le
      have eD7 : m7 h1.length = D := (E7.eq _ (by omega)).trans eD6
      have E17 := E16.trans E7
      have N7 := (N5.ex E6).ex E7
      let I1 : Nat → Hp → Prop := fun j H' => ∃ m8 h8, Ex X.K m7 h7.length H7 m8 h8.length H' ∧ dD X.K m8 h8 H' ∧ lcI g1 p1 tt1 te h1.length (aZ env5 vs1) (fun h5 => lcO g p tt ti1 p1 tt1 te h1.length vs1 (aZ env (own.map (·.2))) P (xs.drop (i + 1)) h5) (ys.drop j) h8
      refine ⟨fun j c H' => c = ys.length - j ∧ j ≤ ys.length ∧ I1 j H', ⟨ys.length, by simp, Nat.zero_le _, m7, h7, .refl, R7, by simpa using p7⟩, ?_⟩
      rintro j c8 H8 ⟨rfl, hj, m8, h8, E8, R8, q8⟩
      have lt8 := E8.le
      have eD8 : m8 h1.length = D := (E8.eq _ (by omega)).trans eD7
      by_cases hjl : j < ys.length
      · have ed1 : ys.drop j = ys[j] :: ys.drop (j + 1) := List.drop_eq_getElem_cons hjl
        rw [ed1, lcI] at q8
        obtain ⟨qg8, q8⟩ := q8
        obtain ⟨s18, s28⟩ := sim1 j h8 m8 H8 E8 R8 qg8
        obtain ⟨go8, yl8⟩ := s18 ys[j] (List.getElem?_eq_getElem hjl)
        refine .inr ⟨go8, I1 (j + 1), fun H4 q4 => ⟨ys.length - (j + 1), by omega, rfl, hjl, q4⟩, fun v9 H9 y9 => ?_⟩
        obtain ⟨E9, R9, r9⟩ := yl8 v9 H9 y9
        obtain ⟨env10, σ10, q10, f10, N10, keep10, len10⟩ := rE R9 ((N7.ex (E8.trans E9)).wipe vs1) r9 q8
        refine f10 _ ⟨wipe_back (ss := Pat.slots p1) keep10 hp1 (by rw [len10, wipe_length]), m8, env10, h8, _, ⟨R9, N10⟩, q10, fun b h11 p11 m11 H11 E11 R11 => ?_⟩
        have lt11 := E11.le
        have eD11 : m11 h1.length = D := (E11.eq _ (by omega)).trans eD8
        have E811 := (E8.trans E9).trans E11
        cases b with
        | false =>
          dsimp only
          rw [if_neg Bool.false_ne_true] at p11 ⊢
          exact ⟨m11, h11, E811, R11, p11⟩
        | true =>
          dsimp only
          rw [if_pos rfl] at p11 ⊢
          refine ⟨m11, env10, h11, _, ⟨R11, N10.ex E11⟩, p11, fun w h12 p12 m12 H12 y12 E12 R12 r12 => ?_⟩
          have lt12 := E12.le
          have eD12 : m12 h1.length = D := (E12.eq _ (by omega)).trans eD11
          split at p12
          · rename_i acc e12
            obtain ⟨us, a, r⟩ := R12.obj _ _ e12
            rw [eD12] at a
            refine ⟨us, a, by rw [← r.length]; exact p12.1, ?_⟩
            have E13 := Ex.write (o := .lst (us ++ [y12])) (e' := EO.lst (acc ++ [w])) R12 e12
            have R13 := R12.write (o := .lst (us ++ [y12])) (e' := EO.lst (acc ++ [w])) e12 ⟨_, upd_same, (aG.ex E13 _ _ r).app (.one (az.ex E13 _ _ r12))⟩
            rw [eD12] at E13 R13
            exact ⟨m12, _, (E811.trans E12).trans E13, R13, p12.2⟩
          · exact p12.elim
      · have e : j = ys.length := by omega
        subst e
        rw [List.drop_length, lcI] at q8
        obtain ⟨_, s28⟩ := sim1 ys.length h8 m8 H8 E8 R8 q8.1
        exact .inl ⟨s28 rfl, m8, h8, E17.trans E8, R8, eD8, by omega, q8.2⟩
  · have e : i = xs.length := by omega
    subst e
    rw [List.drop_length, lcO] at q
    obtain ⟨_, s2⟩ := sim xs.length h2 m2 H' E3 R3 q.1
    refine .inl ⟨s2 rfl, k _ _ q.2 m2 H' _ (E1.trans E3) R3 (by rw [az]; exact ⟨lD, by rw [eD]⟩)⟩
theorem le_lc2 {elt tg iter tg1 iter1 : Expr} {ifs ifs1 : List Expr} {scope : Scope} (own : List (Str × Nat)) (vs1 : List Nat) {ti ti1 : LI} {p p1 : Pat} {tt tt1 : LTt} {te : LT} (hc : X.calm = true) (hN : X.N.Nodup) (hi : LIt X tg iter ti) (ok : BlkOk X.N X.env.scope scope own)
    (hp : ∀ i ∈ Pat.slots p, i ∈ own.map (·.2)) (hp1 : ∀ i ∈ Pat.slots p1, i ∈ vs1) (hv : ∀ i ∈ vs1, i ∈ own.map (·.2))
    (hg : ∀ (s : Shared) (H : Hp) (C : Addr) (cl : List (Str × Addr)) (fp : List Addr), LG (X.blk s H scope (compEnvC scope cl C X.env) fp) tg p)
    (ht : ∀ (s : Shared) (H : Hp) (C : Addr) (cl : List (Str × Addr)) (fp : List Addr), LTs (X.blk s H scope (compEnvC scope cl C X.env) fp) ifs tt)
    (hi1 : ∀ (s : Shared) (H : Hp) (C : Addr) (cl : List (Str × Addr)) (fp : List Addr), LIt (X.blk s H scope (compEnvC scope cl C X.env) fp) tg1 iter1 ti1)
    (hg1 : ∀ (s : Shared) (H : Hp) (C : Addr) (cl : List (Str × Addr)) (fp : List Addr), LG (X.blk s H scope (compEnvC scope cl C X.env) fp) tg1 p1)
    (ht1 : ∀ (s : Shared) (H : Hp) (C : Addr) (cl : List (Str × Addr)) (fp : List Addr), LTs (X.blk s H scope (compEnvC scope cl C X.env) fp) ifs1 tt1)
    (he : ∀ (s : Shared) (H : Hp) (C : Addr) (cl : List (Str × Addr)) (fp : List Addr), LE (X.blk s H scope (compEnvC scope cl C X.env) fp) elt te) (hs : ∀ x, foldedSetIterable iter X.env x = pure x := by intro _; rfl) (hs1 : ∀ env x, foldedSetIterable iter1 env x = pure x := by intro _ _; rfl) :
    LE X (.ListComp elt [⟨tg, iter, ifs, 0⟩, ⟨tg1, iter1, ifs1, 0⟩] scope pos) (lLc2 ti p tt ti1 p1 tt1 te (own.map (·.2)) vs1) :=
  ⟨PE.imp (pe_lc2 (g := gP X.K p) (g1 := gP X.K p1) (tt := upT X.K tt) (tt1 := upT X.K tt1) (te := up X.K te) (wi1 := upI X.K ti1) hc hN hi.pi ok hv (fun s H C cl fp => (hg s H C cl fp).pg) (fun s H C cl fp => (ht s H C cl fp).pts) (fun s H C cl fp => (hi1 s H C cl fp).pi)
    (fun s H C cl fp => (hg1 s H C cl fp).pg) (fun s H C cl fp => (ht1 s H C cl fp).pts) (fun s H C cl fp => (he s H C cl fp).pe) hs hs1) (up_lc2 own hp hp1)⟩
end
section
variable {X : Cx}
end
def lPar3 (i j l : Nat) (ta : LA) : LS := fun D env h => ta env h fun vs h1 => match vs with
  | [u, v, w] => D.nx (((env.set i (some u)).set j (some v)).set l (some w)) h1
  | _ => False
theorem ls_par3 {X : Cx} {pos : Pos} (i j l : Nat) {x y z : Str} {a b c : Expr} {ta : LA} {px py pz pt : Pos} {kt k2 pt2} (hc : X.calm = true) (hN : X.N.Nodup) (ha : LAs X [a, b, c] ta) (hi : X.N[i]? = some x := by rfl) (hj : X.N[j]? = some y := by rfl) (hl : X.N[l]? = some z := by rfl) (hij : i ≠ j := by decide) (hil : i ≠ l := by decide) (hjl : j ≠ l := by decide)
    (hx : X.env.scope.names.lookup x = some .local := by rfl) (hy : X.env.scope.names.lookup y = some .local := by rfl) (hz : X.env.scope.names.lookup z = some .local := by rfl)
    (hw : swappedStores [.Tuple [.Name x px, .Name y py, .Name z pz] kt pt] (.Tuple [a, b, c] k2 pt2) X.env = pure (some [x, y, z]) := by rfl)
    (hs : swapsWithSole [.Tuple [.Name x px, .Name y py, .Name z pz] kt pt] (.Tuple [a, b, c] k2 pt2) pos.line X.env = pure false := by rfl) :
    LSt X (.Assign [.Tuple [.Name x px, .Name y py, .Name z pz] kt pt] (.Tuple [a, b, c] k2 pt2) pos) (lPar3 i j l ta) := by
  refine ⟨PS.imp (ps_par3 hc hN hi hj hl hij hil hjl hx hy hz ha.pa hw hs) fun D σ H ⟨m, env, h, P, at_, t1, k⟩ => ⟨m, env, h, _, at_, t1, fun vs h1 p1 m1 H1 xs E1 R1 r1 => ?_⟩⟩
  split at p1
  · rw [aG] at r1
    obtain ⟨u, l1, rfl, a1, r1⟩ := r1
    obtain ⟨v, w, rfl, a2, a3⟩ := r1.two_inv
    exact ⟨u, v, w, rfl, k.nx _ _ p1 m1 H1 _ E1 ⟨R1, (((at_.nm.ex E1).set a1 i).set a2 j).set a3 l⟩⟩
  · exact p1.elim
def putO (i : Nat) (v : EV) (vs : List (Option EV)) : List (Option EV) := (vs ++ List.replicate (i + 1 - vs.length) Option.none).set i (some v)
theorem putO_get (i : Nat) (v : EV) (vs : List (Option EV)) : (putO i v vs)[i]? = some (some v) := by
  unfold putO
  exact List.getElem?_set_self (by simp only [List.length_append, List.length_replicate]; omega)
theorem putO_ne {i j : Nat} {v x : EV} {vs : List (Option EV)} (h : j ≠ i) : (putO i v vs)[j]? = some (some x) ↔ vs[j]? = some (some x) := by
  unfold putO
  rw [List.getElem?_set_ne (Ne.symm h)]
  by_cases hj : j < vs.length
  · rw [List.getElem?_append_left hj]
  · have e1 : vs[j]? = Option.none := List.getElem?_eq_none_iff.mpr (by omega)
    rw [e1, List.getElem?_append_right (by omega), List.getElem?_replicate]
    constructor
    · intro q
      split at q <;> cases q
    · intro q
      cases q
section
variable {K : PySem.W.Frag} {m : Nat → Addr} {n : Nat} {H : Hp}
theorem sqT_upd3 {a p : Addr} {xs : List V} {o : HO} (h : SqT K H a xs) (hp : ∀ u, H p = some u → (∀ ys, u ≠ .tup ys) ∧ ∀ q ys, u ≠ .frz q (.tup ys)) : SqT K (upd H p o) a xs := by
  rcases h with h | h
  · refine .inl ?_
    have ne : a ≠ p := by
      rintro rfl
      rcases h with h | ⟨q, h⟩
      · exact (hp _ h).1 _ rfl
      · exact (hp _ h).2 _ _ rfl
    rcases h with h | ⟨q, h⟩
    · exact .inl (by rw [upd_ne ne]; exact h)
    · exact .inr ⟨q, by rw [upd_ne ne]; exact h⟩
  · exact .inr h
theorem tk_upd3 {H : Hp} {a p : Addr} {xs : List V} {o : HO} (h : H a = some (.tup xs)) (hp : ∀ u, H p = some u → ∀ ys, u ≠ .tup ys) : upd H p o a = some (.tup xs) := by
  have ne : a ≠ p := by
    rintro rfl
    exact hp _ h _ rfl
  rw [upd_ne ne]; exact h
theorem dD.slot {h : EH} {r C dx : Nat} {vs : List (Option EV)} {ws : List (Option V)} {i : Nat} {v : EV} {x : V} (R : dD K m h H) (hr : h[r]? = some (.slo C vs)) (S : SlX.Slt H (m r) C dx ws) (ne : dx ≠ m r) (hd : H dx = some (.own (m r)) ∨ H dx = some (.xd []))
    (rw' : ∀ (j : Nat) (v : EV), vs[j]? = some (some v) → ∃ w, ws[j]? = some (some w) ∧ az K m h.length H v w) (rx : az K m h.length H v x) :
    Ex K m h.length H m (h.set r (.slo C (putO i v vs))).length (SlX.slH H (m r) C dx (SlX.putS i x ws)) ∧ dD K m (h.set r (.slo C (putO i v vs))) (SlX.slH H (m r) C dx (SlX.putS i x ws)) := by
  have hlt := (List.getElem?_eq_some_iff.mp hr).1
  have tops := R.tops hr
  have E : Ex K m h.length H m (h.set r (.slo C (putO i v vs))).length (SlX.slH H (m r) C dx (SlX.putS i x ws)) := by
    refine ⟨by simp, fun _ _ => rfl, fun a xs q => ?_, fun a xs q => ?_⟩
    · unfold SlX.slH
      refine sqT_upd3 (sqT_upd3 q fun u hu => ?_) fun u hu => ?_
      · rcases hd with z | z <;> rw [z] at hu <;> cases hu <;> exact ⟨fun _ z => (nomatch z), fun _ _ z => nomatch z⟩
      · rw [upd_ne (Ne.symm ne)] at hu
        exact ⟨(tops u hu).1, (tops u hu).2.1⟩
    · unfold SlX.slH
      refine tk_upd3 (tk_upd3 q fun u hu => ?_) fun u hu => ?_
      · rcases hd with z | z <;> rw [z] at hu <;> cases hu <;> exact fun _ z => nomatch z
      · rw [upd_ne (Ne.symm ne)] at hu
        exact (tops u hu).1
  refine ⟨E, ?_⟩
  have set_cases : ∀ {q : Nat} {u e' : EO}, (h.set r e')[q]? = some u → (q = r ∧ u = e') ∨ (q ≠ r ∧ h[q]? = some u) := fun {q u e'} hq => by
    by_cases z : r = q
    · subst z
      rw [List.getElem?_set_self hlt] at hq
      cases hq
      exact .inl ⟨rfl, rfl⟩
    · rw [List.getElem?_set_ne z] at hq
      exact .inr ⟨fun y => z y.symm, hq⟩
  refine ⟨fun q u hq => ?_, fun q p u v hq hp fu fv z => ?_⟩
  · rcases set_cases hq with ⟨rfl, rfl⟩ | ⟨z, hq⟩
    · have io := (R.obj _ _ hr).1
      refine ⟨io, dx, _, SlX.slH_slt ne, ne, .inr ?_, fun j y hj => ?_⟩
      · unfold SlX.slH
        rw [upd_ne ne, upd_same]
      · by_cases e : j = i
        · subst e
          rw [putO_get] at hj
          cases hj
          exact ⟨x, SlX.putS_get _ _ _, az.ex E _ _ rx⟩
        · obtain ⟨w, ew, r1⟩ := rw' j y ((putO_ne e).mp hj)
          exact ⟨w, (SlX.putS_ne e).mpr ew, az.ex E _ _ r1⟩
    · have Rq := R.obj q u hq
      have off : isF u = false → m q ≠ m r := fun fu y => z (R.inj q r u _ hq hr fu rfl y)
      by_cases fu : isF u = false
      · obtain ⟨c, hc, nt⟩ := Rq.there fu
        have nd : m q ≠ dx := by
          intro y
          rw [y] at hc
          rcases hd with z | z <;> rw [z] at hc <;> cases hc
          · exact nt.2.2.2.2 _ rfl
          · exact nt.2.2.2.1 _ rfl
        refine Rq.ex E (SlX.slH_ne (off fu) nd) fun b => ⟨fun e => ?_, fun e => ?_⟩
        · have nb : b ≠ m r := by
            rintro rfl
            exact (tops _ e).2.2.2.1 _ rfl
          unfold SlX.slH
          rw [upd_ne nb]
          by_cases y : b = dx
          · rw [y, upd_same]
          · rw [upd_ne y]; exact e
        · have nb : b ≠ m r := by
            rintro rfl
            exact (tops _ e).2.2.2.2 _ rfl
          have nd : b ≠ dx := by
            rintro rfl
            rcases hd with z | z
            · rw [z] at e
              injection e with e
              injection e with e
              exact off fu e.symm
            · rw [z] at e
              cases e
          rw [SlX.slH_ne nb nd]
          exact e
      · cases u with
        | frz xs =>
          obtain ⟨us, e, r1⟩ := Rq
          refine ⟨us, ?_, aG.ex E _ _ r1⟩
          rcases e with ⟨o, e⟩ | e
          · refine .inl ⟨o, ?_⟩
            have nb : m q ≠ m r := by
              intro y
              rw [y] at e
              exact (tops _ e).2.2.1 _ _ rfl
            have nd : m q ≠ dx := by
              intro y
              rw [y] at e
              rcases hd with z | z <;> rw [z] at e <;> cases e
            rw [SlX.slH_ne nb nd]
            exact e
          · exact .inr e
        | xob fs =>
          obtain ⟨l, e, r1⟩ := Rq
          refine ⟨l, ?_, RelFs.ex E _ _ r1⟩
          have nb : m q ≠ m r := by
            intro y
            rw [y] at e
            exact (tops _ e).2.2.2.1 _ rfl
          by_cases nd : m q = dx
          · rw [nd] at e ⊢
            rcases hd with z | z
            · rw [z] at e; cases e
            · rw [z] at e
              cases e
              unfold SlX.slH
              rw [upd_ne ne, upd_same]
          · rw [SlX.slH_ne nb nd]
            exact e
        | mark m0 n0 H0 => exact Ex.trans Rq E
        | _ => exact absurd rfl fu
  · rcases set_cases hq with ⟨a, a'⟩ | ⟨a, hq'⟩ <;> rcases set_cases hp with ⟨b, b'⟩ | ⟨b, hp'⟩
    · rw [a, b]
    · rw [a] at z; exact absurd (R.inj p r v _ hp' hr fv rfl z.symm) b
    · rw [b] at z; exact absurd (R.inj q r u _ hq' hr fu rfl z) a
    · exact R.inj q p u v hq' hp' fu fv z
end
abbrev STab := List (Addr × Nat)
def qj (tab : STab) (v : EV) (h : EH) (P : EV → Prop) : Prop := match v with
  | .ref r => match h[r]? with
    | some (.slo C vs) => match tab.lookup C with
      | some i => match vs[i]? with
        | some (some x) => P x
        | _ => False
      | none => False
    | _ => False
  | _ => False
def lAttr (tab : STab) (to : LT) : LT := fun env h P => to env h fun v h1 => qj tab v h1 fun x => P x h1
def SlotOf (K : PySem.W.Frag) (f : Str) (tab : STab) : Prop := ∀ q ∈ tab, SlX.SCls K q.1 ∧ ∃ p, SlX.Slot1 K q.1 f p q.2
def lSetAt (tab : STab) (to tv : LT) : LS := fun D env h => tv env h fun v h1 => to env h1 fun o h2 => match o with
  | .ref r => match h2[r]? with
    | some (.slo C vs) => match tab.lookup C with
      | some i => D.nx env (h2.set r (.slo C (putO i v vs)))
      | none => False
    | _ => False
  | _ => False
section
variable {X : Cx} {pos pos' apos : Pos} {o e : Expr} {es : List Expr} {to te : LT} {t : LA} {f x : Str}
theorem le_attr {tab : STab} (T : SlotOf X.K f tab) (he : LE X e te) (hb : attributeBase e f X.env (eval e X.env) = eval e X.env := by rfl) : LE X (.Attribute e f pos) (lAttr tab te) := by
  refine ⟨PE.imp (SlX.pe_sl he.pe hb) fun σ H Q ⟨m, env, h, P, at_, t1, k⟩ => ⟨m, env, h, _, at_, t1, fun v h1 p1 m1 H1 x E1 R1 r1 => ?_⟩⟩
  unfold qj at p1
  split at p1
  · rw [az] at r1
    obtain ⟨_, rfl⟩ := r1
    split at p1
    · rename_i C vs e
      obtain ⟨_, dx, ws, s, _, _, r⟩ := R1.obj _ _ e
      split at p1
      · rename_i i ei
        obtain ⟨c, p, sl⟩ := T _ (lookup_mem ei)
        split at p1
        · rename_i y ey
          obtain ⟨w, ew, rw'⟩ := r _ _ ey
          exact ⟨_, C, dx, p, ws, i, w, rfl, s, c, sl, ew, k _ _ p1 m1 H1 _ E1 R1 rw'⟩
        · exact p1.elim
      · exact p1.elim
    · exact p1.elim
  · exact p1.elim
theorem ls_attr {tab : STab} (T : SlotOf X.K f tab) (ho : LE X o to) (hv : LE X e te) (hs : swapsWith e (some (.Attribute o f pos')) pos.line X.env = pure false := by rfl) : LSt X (.Assign [.Attribute o f pos'] e pos) (lSetAt tab to te) := by
  refine ⟨PS.imp (SlX.ps_sl ho.pe hv.pe hs) fun D σ H ⟨m, env, h, P, at_, t1, k⟩ => ⟨m, env, h, _, at_, t1, fun v h1 p1 m1 H1 x E1 R1 r1 => ⟨m1, env, h1, _, at_.ex E1 R1, p1, fun o h2 p2 m2 H2 y E2 R2 r2 => ?_⟩⟩⟩
  split at p2
  · rw [az] at r2
    obtain ⟨_, rfl⟩ := r2
    split at p2
    · rename_i C vs e
      obtain ⟨io, dx, ws, s, ne, hd, r⟩ := R2.obj _ _ e
      split at p2
      · rename_i i ei
        obtain ⟨c, p, sl⟩ := T _ (lookup_mem ei)
        have Z := R2.slot (i := i) e s ne hd r (az.ex E2 _ _ r1)
        exact ⟨_, C, dx, p, ws, i, rfl, s, c, sl, k.nx _ _ p2 m2 _ σ ((E1.trans E2).trans Z.1) (((at_.ex E1 R1).ex E2 R2).ex Z.1 Z.2)⟩
      · exact p2.elim
    · exact p2.elim
  · exact p2.elim
def lMake (C : Addr) (sp : LSp) (t : LA) : LT := fun env h P => t env h fun vs h1 => sp (.ref h1.length :: vs) (h1 ++ [.slo C []]) fun v h2 => v = .non ∧ P (.ref h1.length) h2
variable {k : Nat} {g C : Addr} {fd : FuncData} {ps : List Str} {sp : LSp} {p : Pos}
theorem guards_make {A : Around} (C : Addr) (us : List Value) (hG : A.guards = some []) : (A.under (.builtin "type.__call__" ⟨.ref C :: us, []⟩)).guards = some [] := by
  first | exact hG | simp [Around.under, Code.weight, Code.isCreation, Code.isGuard, Code.isCaller, Code.frames, Code.isFrame, guardIds, hG]
theorem runMk {pins : List (Addr × Obj)} {σ : L2.St} {H : Hp} {s : Shared} {Q : VK} {us : List Value} {vs : List V} (M : Mk X.K C g) (F : FnG X.prog X.w X.K X.mg X.base k g fd ps sp) (hr : Room (k + 1) X.A) (hG : X.A.guards = some []) (hb : Binds X.K fd ps [])
    (I : Inv X pins σ H s) (r : Vals vs us)
    (h : ∀ x dx, H x = none → H dx = none → dx ≠ x → upSp X.K sp (.ref x :: vs) (upd (upd H dx (.own x)) x (.ins C dx [])) (fun v H2 => v = .non ∧ Q (.ref x) H2)) :
    wpAny (model X.prog X.w) X.A (call (.ref C) us) (EP X pins σ Q) X.xe s := by
  have hq := h (s.heap.objs.size + 1) s.heap.objs.size (I.hok.fresh (Nat.le_succ _)) (I.hok.fresh (Nat.le_refl _)) (Nat.ne_of_lt (Nat.lt_succ_self _))
  have I2 := Inv.made (C := C) I
  have r2 : Vals (V.ref (s.heap.objs.size + 1) :: vs) (Value.ref (s.heap.objs.size + 1) :: us) := .cons rfl r
  have hl : (Value.ref (s.heap.objs.size + 1) :: us).length = ps.length := by
    have e := r2.length
    rw [upSp.len F.len hq] at e
    exact e.symm
  have b := hb _ (Value.ref (s.heap.objs.size + 1) :: us) I2.kIn (by rw [List.append_nil]; exact hl)
  rw [List.append_nil] at b
  refine wpAny_call (make_map (f := g) I.kIn M.makes M.init (beq_iff_eq.mp M.fn) (codeAny_mono (F.run _ X.stack _ _ ⟨Value.ref (s.heap.objs.size + 1) :: us, []⟩ (Value.ref (s.heap.objs.size + 1) :: us) _ _ (hr.make C us []) (guards_make C us hG)
    (I2.env0.make C us []) b r2 hq) fun r s' hq' => ?_))
  match r, hq' with
  | .error _, ho => exact ho.elim
  | .ok (.ret u), ho =>
    obtain ⟨v, H', I3, rv, ev, q3⟩ := I2.after ho
    subst ev
    exact ⟨rv, ⟨V.ref (s.heap.objs.size + 1), H', I3, rfl, q3⟩⟩
  | .ok .next, ho => exact ho.elim
  | .ok .brk, ho => exact ho.elim
  | .ok .cont, ho => exact ho.elim
theorem up_make {K : PySem.W.Frag} (io : IsiOk K C) (σ : L2.St) (H : Hp) (Q : VK) (q : up K (lMake C sp t) σ H Q) : upA K t σ H fun vs H1 => ∀ x dx, H1 x = none → H1 dx = none → dx ≠ x → upSp K sp (.ref x :: vs) (upd (upd H1 dx (.own x)) x (.ins C dx [])) (fun v H2 => v = .non ∧ Q (.ref x) H2) := by
  obtain ⟨m, env, h, P, at_, t1, k⟩ := q
  refine ⟨m, env, h, _, at_, t1, fun vs h1 p1 m1 H1 xs E1 R1 r1 x dx hx hdx ne => ?_⟩
  have E2 : Ex K m1 h1.length H1 m1 h1.length (upd H1 dx (.own x)) := Ex.tup1 hdx
  have R2 := R1.tup (o := .own x) hdx
  have hx2 : upd H1 dx (.own x) x = none := by rw [upd_ne (Ne.symm ne)]; exact hx
  have E3 : Ex K m1 h1.length (upd H1 dx (.own x)) (mput m1 h1.length x) (h1 ++ [EO.slo C []]).length (upd (upd H1 dx (.own x)) x (.ins C dx [])) := Ex.new hx2
  have R3 : dD K (mput m1 h1.length x) (h1 ++ [EO.slo C []]) (upd (upd H1 dx (.own x)) x (.ins C dx [])) := R2.new hx2 ⟨io, dx, [], .inl ⟨upd_same, rfl⟩, ne, .inl (by rw [upd_ne ne, upd_same]), fun i v q => by simp at q⟩
  have E := E2.trans E3
  refine ⟨mput m1 h1.length x, _, _, _, R3, .cons (by rw [az]; exact ⟨by simp, by rw [lU]⟩) (aG.ex E _ _ r1), p1, fun v h2 p2 m2 H2 y E4 R4 r4 => ?_⟩
  obtain ⟨rfl, p2⟩ := p2
  rw [az] at r4
  refine ⟨r4, k _ _ p2 m2 H2 _ ((E1.trans E).trans E4) R4 ?_⟩
  have lt := E4.le
  simp only [List.length_append, List.length_singleton] at lt
  rw [az]
  refine ⟨by omega, ?_⟩
  rw [E4.eq h1.length (by simp), lU]
theorem le_make (io : IsiOk X.K C) (M : Mk X.K C g) (F : FnG X.prog X.w X.K X.mg X.base k g fd ps sp) (hr : Room (k + 1) X.A) (hG : X.A.guards = some []) (hg : Gl X x) (hm : X.mg x = some (.ref C)) (hb : Binds X.K fd ps [])
    (ha : LAs X (e :: es) t) (hdb : (x == ("__debug__" : Str)) = false := by decide) (he : starEach (e :: es) X.env = (false, eval e X.env) :: starEach es X.env := by rfl) (hpl : (backTo pos (starEach es X.env)).any (·.1) = false := by rfl) :
    LE X (.Call (.Name x p) (e :: es) [] pos) (lMake C sp t) :=
  ⟨⟨fun pins s σ H Q I q => wpAny_Call_Name_kw (ld_glob I hg hm (PySem.W.callWith_K (h₀ := X.base) I.ok.mod.kin M.kp (thn (ha.pa.run pos pins s σ H _ I (up_make io σ H Q q)) fun us s1 ⟨vs, H1, I1, r, q1⟩ =>
    ⟨I1.kIn, runMk M F hr hG hb I1 r q1⟩) he hpl) hdb)⟩⟩
def MetOf (X : Cx) (m : Str) (mt : Addr → Option LSp) : Prop := ∀ C sp, mt C = some sp → SlX.SCls X.K C ∧ ∃ g k fd ps, Meth X.K C m g ∧ FnG X.prog X.w X.K X.mg X.base k g fd ps sp ∧ Room k X.A ∧ Binds X.K fd ps []
def metK (mt : Addr → Option LSp) (t : LA) (env : En) (P : EK) (v : EV) (h1 : EH) : Prop := match v with
  | .ref r => match h1[r]? with
    | some (.slo C _) => match mt C with
      | some sp => t env h1 fun vs h2 => sp (.ref r :: vs) h2 P
      | none => False
    | _ => False
  | _ => False
def lMet (mt : Addr → Option LSp) (to : LT) (t : LA) : LT := fun env h P => to env h fun v h1 => metK mt t env P v h1
theorem le_met {mt : Addr → Option LSp} {m : Str} {pl : Sem Bool} (T : MetOf X m mt) (hG : X.A.guards = some []) (ho : LE X o to) (ha : LAs X (e :: es) t)
    (hst : starEach (e :: es) X.env = (false, eval e X.env) :: starEach es X.env := by rfl) (hpl : (backTo pos (starEach es X.env)).any (·.1) = false := by rfl)
    (ht : eval (.Call (.Attribute o m apos) (e :: es) [] pos) X.env = (do
      let ov ← eval o X.env
      standAt apos.atName
      let (f, first) ← holding [ov] (getMethod ov m pl)
      callWith pos f first (backTo pos (starEach (e :: es) X.env)) (backToKw pos (keywordEach [] X.env))) := by rfl) :
    LE X (.Call (.Attribute o m apos) (e :: es) [] pos) (lMet mt to t) := by
  refine ⟨⟨fun pins s σ H Q I ⟨mm, env, h, P, at_, t1, k⟩ => ?_⟩⟩
  have hq : up X.K to σ H (fun x H1 => ∃ m1 h1 v, metK mt t env P v h1 ∧ Ex X.K mm h.length H m1 h1.length H1 ∧ dD X.K m1 h1 H1 ∧ az X.K m1 h1.length H1 v x) := ⟨mm, env, h, _, at_, t1, fun v h1 p1 m1 H1 x E1 R1 r1 => ⟨m1, h1, v, p1, E1, R1, r1⟩⟩
  refine PySem.W.methodCall_KW (pl := pl) (thn (ho.pe.run pins s σ H _ I hq) fun u s1 ⟨x, H1, I1, rx, m1, h1, v, p1, E1, R1, r1⟩ => ?_) ht
  unfold metK at p1
  split at p1
  · rename_i r
    rw [az] at r1
    obtain ⟨hlt, rfl⟩ := r1
    split at p1
    · rename_i C vs e
      obtain ⟨_, dx, ws, sl, _, _, _⟩ := R1.obj _ _ e
      split at p1
      · rename_i sp es
        obtain ⟨c, g, kk, fd, ps, hm, F, hr, hb⟩ := T _ _ es
        obtain rfl : u = Value.ref (m1 r) := rx
        refine SlX.getmethsl_ok I1 sl c hm ?_
        refine PySem.W.callWith_K (first := [.ref (m1 r)]) (h₀ := X.base) I.ok.mod.kin hm.kp (thn (ha.pa.run pos pins s1 σ H1 (fun vs H2 => upSp X.K sp (.ref (m1 r) :: vs) H2 Q) I1 ⟨m1, env, h1, _, at_.ex E1 R1, p1, fun vs h2 p2 m2 H2 xs E2 R2 r2 =>
          ⟨m2, h2, _, P, R2, .cons (by rw [az]; exact ⟨Nat.lt_of_lt_of_le hlt E2.le, by rw [E2.eq _ hlt]⟩) r2, p2, k.ex (E1.trans E2)⟩⟩) fun us s2 ⟨ws, H2, I2, rr, q2⟩ => ⟨I2.kIn, ?_⟩) hst hpl
        exact runG (us := .ref (m1 r) :: us) (vs := .ref (m1 r) :: ws) F hr hG hb I2 (.cons rfl rr) q2
      · exact p1.elim
    · exact p1.elim
  · exact p1.elim
end
def lLockE (t : LT) : LT := fun env h P => ∃ r kvs, h[r]? = some (.dic kvs) ∧ ∀ od l, t env (h.set r (.dlk od l kvs)) fun v h' => h'[r]? = some (.dlk od l kvs) ∧ P v (h'.set r (.dic kvs))
theorem le_lock {X : Cx} {e : Expr} {t : LT} (he : LE X e t) : LE X e (lLockE t) := by
  refine ⟨PE.imp (pe_lock he.pe) fun σ H Q ⟨m, env, h, P, at_, t1, k⟩ => ?_⟩
  obtain ⟨r, kvs, er, t1⟩ := t1
  obtain ⟨l, a, rl⟩ := at_.hp.obj _ _ er
  refine ⟨m r, .dK l, a, trivial, fun od => ?_⟩
  have E := Ex.write (o := .frz od (.dK l)) (e' := EO.dlk od l kvs) at_.hp er
  have R := at_.hp.write (o := .frz od (.dK l)) (e' := EO.dlk od l kvs) er ⟨upd_same, rl.ex E⟩
  refine ⟨m, env, _, _, at_.ex E R, t1 od l, fun v h' p m' H' x E' R' r' => ?_⟩
  have hr := cC er
  have em : m' r = m r := E'.eq r (by simpa using hr)
  obtain ⟨a', rl'⟩ := R'.obj _ _ p.1
  rw [em] at a'
  refine ⟨a', ?_⟩
  have E2 := Ex.write (o := .dK l) (e' := EO.dic kvs) R' p.1
  have R2 := R'.write (o := .dK l) (e' := EO.dic kvs) p.1 ⟨l, upd_same, rl'.ex E2⟩
  rw [em] at E2 R2
  exact k _ _ p.2 m' _ _ ((E.trans E').trans E2) R2 (az.ex E2 _ _ r')
theorem bK.at {K : PySem.W.Frag} {m : Nat → Addr} {n : Nat} {H : Hp} : ∀ {es : List (EV × EV)} {l : List (L2.Key × V)} {i : Nat} {p : EV × EV}, bK K m n H es l → es[i]? = some p → ∃ k v, l[i]? = some (k, v) ∧ az K m n H p.1 (kV k) ∧ az K m n H p.2 v
  | [], l, i, p, r, e => by simp at e
  | (a, x) :: es, l, 0, p, r, e => by
    rw [bK] at r
    obtain ⟨k, v, l', rfl, ra, rx, r⟩ := r
    simp at e
    subst e
    exact ⟨k, v, rfl, ra, rx⟩
  | (a, x) :: es, l, i + 1, p, r, e => by
    rw [bK] at r
    obtain ⟨k, v, l', rfl, ra, rx, r⟩ := r
    obtain ⟨k2, v2, e2, b⟩ := bK.at (i := i) r (by simpa using e)
    exact ⟨k2, v2, by simpa using e2, b⟩
def lItems (te : LT) : LI := fun env h P => te env h fun v h1 => match v with
  | .ref r => match h1[r]? with
    | some (.dlk o l kvs) => P (fun h' => h'[r]? = some (.dlk o l kvs)) (kvs.map fun p => EV.tup [p.1, p.2]) h1
    | _ => False
  | _ => False
theorem lit_items {X : Cx} {e : Expr} {te : LT} {elts : List Expr} {kk : Nat} {tpos apos cpos : Pos} (he : LE X e te) (hbase : attributeBase e "items" X.env (eval e X.env) = eval e X.env := by rfl) (hline : (apos.endLine == cpos.line) = true := by rfl) :
    LIt X (.Tuple elts kk tpos) (.Call (.Attribute e "items" apos) [] [] cpos) (lItems te) := by
  refine ⟨PI.imp (pi_items he.pe hbase hline) fun σ H R ⟨m, env, h, P, at_, t1, k⟩ => ⟨m, env, h, _, at_, t1, fun v h1 p1 m1 H1 x E1 R1 r1 => ?_⟩⟩
  split at p1
  · rename_i r
    rw [az] at r1
    obtain ⟨hr, rfl⟩ := r1
    split at p1
    · rename_i o l kvs er
      obtain ⟨a, rl⟩ := R1.obj _ _ er
      refine ⟨_, o, l, rfl, a, k _ _ h1 p1 m1 H1 _ E1 R1 fun i h' m' H' E' R' gh => ?_⟩
      obtain ⟨a', rl'⟩ := R'.obj _ _ gh
      rw [E'.eq _ hr] at a'
      have ll := bK.length rl'
      refine ⟨fun z hz => ?_, fun hi => ⟨a', by rw [List.length_map] at hi; omega⟩⟩
      rw [List.getElem?_map] at hz
      obtain ⟨p, hp, rfl⟩ := Option.map_eq_some_iff.mp hz
      obtain ⟨k2, v2, e2, ra, rb⟩ := bK.at rl' hp
      refine ⟨⟨a', (List.getElem?_eq_some_iff.mp e2).1⟩, fun v H2 ⟨T, k3, v3, e3, ev, hT, eH⟩ => ?_⟩
      rw [e2] at e3
      cases e3
      subst ev eH
      exact rel_pair R' hT ra rb
    · exact p1.elim
  · exact p1.elim
def tyE (v : EV) (h : EH) : Option String := match v with
  | .non => some "NoneType"
  | .bl _ => some "bool"
  | .int _ => some "int"
  | .str _ => some "str"
  | .ref r => match h[r]? with
    | some (.lst _) => some "list"
    | some (.dic _) => some "dict"
    | some (.slo _ _) => some "?"
    | _ => none
  | .tup _ => some "tuple"
  | .ktup _ => some "tuple"
  | _ => none
def isiB (t T : String) : Bool := t == T || (t == "bool" && T == "int")
def isiE : LC := fun vs h P => match vs with
  | [v, .ty T] => match tyE v h with
    | some t => (T = "int" ∨ T = "bool" ∨ T = "str" ∨ T = "tuple" ∨ T = "dict" ∨ T = "list") ∧ P (.bl (isiB t T)) h
    | none => False
  | _ => False
theorem isi_tab : ∀ t ∈ ["NoneType", "bool", "int", "str", "list", "dict", "tuple"], ∀ T ∈ ["int", "bool", "str", "tuple", "dict", "list"], kitB t T = some (isiB t T) := by decide +kernel
theorem le_bty {X : Cx} {x : Str} {pos : Pos} (T : String) (hg : Gl X x) (hm : X.mg x = none) (hv : bootBuiltins x = some (.type T)) (hn : x ≠ "__name__" := by decide) (hdb : (x == ("__debug__" : Str)) = false := by decide) : LE X (.Name x pos) (lC (.ty T)) :=
  ⟨⟨fun pins s σ H Q I ⟨m, env, h, P, at_, t1, k⟩ => ld_blt I hg hm hv (s := s) ⟨.ty T, H, I, rfl, k _ _ t1 m H _ .refl at_.hp (by rw [az])⟩ hn hdb⟩⟩
section
open PySem.W
variable {prog : Program} {w : World} {A : Around} {E : Value → Shared → Prop} {s : Shared} {K : PySem.W.Frag} {x D : Addr} {ox od : Obj}
theorem cls_some (h : isClsIn K D = true) : ∃ cd, clsIn K D = some cd := Option.isSome_iff_exists.mp h
theorem kin_class2 {Q : Option Value → Shared → Prop} (io : IsiOk K D) (X : K.In s.heap) (I : InstAt s.heap x ox D (some od)) (h : Q (some (.ref D)) { s with toks := s.toks + 1 }) : wpAny (model prog w) A (getAttr? (.ref x) "__class__") Q E s := by
  have hf : findObj K D (some od) "__class__" = some (.bind (.builtin "getset_descriptor.__get__") (.builtin "object.__class__")) := findObj_data (by obtain ⟨cd, hc⟩ := cls_some io.ic; rw [hc]; rfl) io.cl io.gt io.tk
  exact kin_open X I (plainGet_of io.pg).1 (kin_hooked (s := { s with toks := s.toks + 1 }) X I hf (plainGet_of io.pg).2
    (wpAny_call (class_get (s := { s with toks := s.toks + 1 }) (ox := ox) (od := some od) X I io.mo (handed_on rfl h))))
theorem kitx_own2 (io : IsiOk K D) : KitX K (.ref x) (.ref D) (fun h => InstAt h x ox D (some od)) where
  ty := fun _ _ _ I => I.type
  it := fun _ _ X _ => by
    obtain ⟨cdD, hcD⟩ := cls_some io.ic
    unfold clsIn at hcD
    split at hcD
    · rename_i c' d' cd' sl' ho
      intro A' Q' E' s' k q
      unfold isType loadHead
      exact wpAny_bind (wpAny_loadPart (k _ _ (X _ _ ho)) (wpAny_pure q))
    · cases hcD
  ne := fun h tp dd its n sl X htp => by
    obtain ⟨cdD, hcD⟩ := cls_some io.ic
    refine Bool.eq_false_iff.mpr fun q => ?_
    have e : D = tp := Value.ref.inj (beq_iff_eq.mp q)
    subst e
    unfold clsIn at hcD
    split at hcD
    · rename_i c' d' cd' sl' ho
      have z := (X _ _ ho).symm.trans htp
      cases z
    · cases hcD
  ca := fun X I k => kin_class2 io X I k
end
def IsSl (K : PySem.W.Frag) (H : Hp) (a C : Addr) : Prop := IsiOk K C ∧ ∃ dx ws, SlX.Slt H a C dx ws ∧ (H dx = some (.own a) ∨ H dx = some (.xd []))
theorem IsSl.at {X : Cx} {pins : List (Addr × Obj)} {σ : L2.St} {H : Hp} {s : Shared} {a C : Addr} (I : Inv X pins σ H s) (z : IsSl X.K H a C) : ∃ ox od, PySem.W.InstAt s.heap a ox C (some od) := by
  obtain ⟨io, dx, ws, sl, hd⟩ := z
  have hdx : ∃ od, s.heap.get? dx = some od := by
    rcases hd with hd | hd
    · exact I.hok dx _ hd
    · obtain ⟨mA, ⟨od, es, ep, e, _⟩, _⟩ := I.hok dx _ hd
      exact ⟨od, e⟩
  obtain ⟨od, hod⟩ := hdx
  rcases sl with ⟨e, _⟩ | ⟨e, _⟩
  · obtain ⟨d, _, ne, e1, _⟩ := I.hok a _ e
    exact ⟨_, od, e1, rfl, rfl, hod⟩
  · have e' := I.hok a _ e
    unfold SlX.SlO at e'
    obtain ⟨⟨sl, e1, _⟩, _⟩ := e'
    exact ⟨_, od, e1, rfl, rfl, hod⟩
def rIsiS (K : PySem.W.Frag) : List V → Hp → VK → Prop := fun xs H Q => ∃ a C T, xs = [.ref a, .ty T] ∧ IsSl K H a C ∧ T ∈ ["int", "bool", "str", "tuple", "dict", "list"] ∧ Q (.bl false) H
theorem call_isiS {X : Cx} : CallR X (.builtin "isinstance") (rIsiS X.K) := by
  intro pins s σ H xs us Q I r h
  obtain ⟨a, C, T, rfl, z, hT, q⟩ := h
  obtain ⟨u1, u2, rfl, r1, r2⟩ := vals2 r
  cases (show u1 = Value.ref a from r1)
  cases (show u2 = Value.type T from r2)
  obtain ⟨ox, od, J⟩ := z.at I
  exact PySem.W.kia_one (kitx_own2 z.1) I.kIn J (z.1.ty T hT) (fun y => nomatch y) fun tk => ⟨.bl false, H, I.tok tk, rfl, q⟩
theorem lc_isi {X : Cx} : oh X (.builtin "isinstance") isiE := by
  refine ⟨_, CallR.or call_isi call_isiS, fun m h H vs xs P Q R r0 q k => ?_⟩
  unfold isiE at q
  split at q
  · obtain ⟨x, y, rfl, r1, r2⟩ := r0.two_inv
    rw [az] at r2
    subst r2
    split at q
    · rename_i v T _ t et
      have hT : T ∈ ["int", "bool", "str", "tuple", "dict", "list"] := by
        rcases q.1 with z | z | z | z | z | z <;> rw [z] <;> simp
      by_cases hs : t = "?"
      · subst hs
        refine .inr ?_
        obtain ⟨r, C, vs, rfl, e⟩ : ∃ r C vs, v = .ref r ∧ h[r]? = some (.slo C vs) := by
          unfold tyE at et
          split at et <;> first
            | (rename_i r; split at et <;> first | (rename_i C vs e; exact ⟨r, C, vs, rfl, e⟩) | (simp at et; done))
            | (simp at et; done)
        rw [az] at r1
        obtain ⟨_, rfl⟩ := r1
        obtain ⟨io, dx, ws, sl, _, hd, _⟩ := R.obj _ _ e
        have qf : isiB "?" T = false := by
          simp only [List.mem_cons, List.not_mem_nil, or_false] at hT
          rcases hT with z | z | z | z | z | z <;> rw [z] <;> rfl
        rw [qf] at q
        exact ⟨_, _, T, rfl, ⟨io, dx, ws, sl, hd⟩, hT, k.same R q.2 (by rw [az])⟩
      have ty : TyX X.K H x (.type t) := by
        unfold tyE at et
        split at et
        · rw [az] at r1; subst r1; cases et; exact .base .non
        · rw [az] at r1; subst r1; cases et; exact .base (.bl _)
        · rw [az] at r1; subst r1; cases et; exact .base (.int _)
        · rw [az] at r1; subst r1; cases et; exact .base (.str _)
        · rw [az] at r1
          obtain ⟨_, rfl⟩ := r1
          split at et
          · rename_i e
            obtain ⟨us, a, _⟩ := R.obj _ _ e
            cases et; exact .base (.lst a)
          · rename_i e
            obtain ⟨us, a, _⟩ := R.obj _ _ e
            cases et; exact .base (.dK a)
          · cases et; exact absurd rfl hs
          · cases et
        · rw [az] at r1
          obtain ⟨a, us, rfl, ha, _⟩ := r1
          cases et
          exact .base (.tup ha)
        · rw [az] at r1
          obtain ⟨a, us, rfl, ha, _⟩ := r1
          cases et
          rcases ha with (ha | ⟨o, ha⟩) | ⟨o, its, n, hk, hc, _⟩
          · exact .base (.tup ha)
          · exact .fTuple ha
          · exact .kTuple hk hc
        · cases et
      have ht : t ∈ ["NoneType", "bool", "int", "str", "list", "dict", "tuple"] := by
        unfold tyE at et
        split at et <;> first | (cases et; simp; done) | (cases et; done) | (split at et <;> first | (cases et; simp; done) | (cases et; done) | (cases et; exact absurd rfl hs))
      exact .inl ⟨x, _, _, _, _, rfl, .ty T, ty, kit_ty (isi_tab t ht T hT), k.same R q.2 (by rw [az])⟩
    · exact q.elim
  · exact q.elim
def isDct (r : Nat) (h : EH) : Prop := match h[r]? with
  | some (.dic _) => True
  | some (.dct _) => True
  | _ => False
def lGet2 (td ty tx : LT) : LT := fun env h P => td env h fun v h1 => match v with
  | .ref r => isDct r h1 ∧ ty env h1 fun y h2 => tx env h2 fun z h3 => match h3[r]? with
    | some (.dic kvs) => isKey y ∧ P ((qF kvs y).getD z) h3
    | some (.dct kvs) => isKeyT y ∧ P ((dGetT kvs y).getD z) h3
    | _ => False
  | _ => False
theorem le_get2 {X : Cx} {o e f : Expr} {td ty tx : LT} {apos cpos : Pos} (hu : X.A.units + 1 < cLine) (ho : LE X o td) (he : LE X e ty) (hf : LE X f tx) (m2 : M2 X o "get" apos e f cpos := by exact ⟨rfl, rfl, rfl, rfl⟩) :
    LE X (.Call (.Attribute o "get" apos) [e, f] [] cpos) (lGet2 td ty tx) := by
  refine ⟨PE.imp (pe_dget2 hu ho.pe he.pe hf.pe m2) fun σ H Q ⟨m, env, h, P, at_, t1, k⟩ => ⟨m, env, h, _, at_, t1, fun v h1 p1 m1 H1 x E1 R1 r1 => ?_⟩⟩
  split at p1
  · rename_i r
    obtain ⟨er, p1⟩ := p1
    rw [az] at r1
    obtain ⟨hr, rfl⟩ := r1
    have isd : IsD H1 (m1 r) := by
      unfold isDct at er
      split at er
      · rename_i e
        obtain ⟨l, a, _⟩ := R1.obj _ _ e
        exact .inl ⟨l, .inl a⟩
      · rename_i e
        obtain ⟨l, a, _⟩ := R1.obj _ _ e
        exact .inr ⟨l, .inl a⟩
      · exact er.elim
    refine ⟨_, rfl, isd, m1, env, h1, _, at_.ex E1 R1, p1, fun y h2 p2 m2 H2 yv E2 R2 r2 => ⟨m2, env, h2, _, (at_.ex E1 R1).ex E2 R2, p2, fun z h3 p3 m3 H3 zv E3 R3 r3 => ?_⟩⟩
    split at p3
    · rename_i kvs3 er3
      obtain ⟨l3, a3, rl3⟩ := R3.obj _ _ er3
      obtain ⟨hk, p3⟩ := p3
      have r2' := az.ex E3 _ _ r2
      obtain ⟨k', rfl⟩ := key_of hk r2'
      have em : m3 r = m1 r := (E3.eq _ (Nat.lt_of_lt_of_le hr E2.le)).trans (E2.eq _ hr)
      rw [em] at a3
      refine ⟨_, DGet.k a3, ?_⟩
      obtain ⟨g1, g2⟩ := bK.get r2' hk rl3
      have E13 := (E1.trans E2).trans E3
      cases e : qF kvs3 y with
      | none =>
        rw [g2 e]
        rw [e] at p3
        exact k _ _ p3 m3 H3 _ E13 R3 r3
      | some w =>
        obtain ⟨u, eu, ru⟩ := g1 w e
        rw [eu]
        rw [e] at p3
        exact k _ _ p3 m3 H3 _ E13 R3 ru
    · rename_i kvs3 er3
      obtain ⟨l3, a3, rl3⟩ := R3.obj _ _ er3
      obtain ⟨hk, p3⟩ := p3
      have r2' := az.ex E3 _ _ r2
      obtain ⟨k', b, ek, rfl, hb⟩ := keyT_of hk r2'
      have em : m3 r = m1 r := (E3.eq _ (Nat.lt_of_lt_of_le hr E2.le)).trans (E2.eq _ hr)
      rw [em] at a3
      refine ⟨_, DGet.t a3 hb, ?_⟩
      obtain ⟨g1, g2⟩ := bY.get ek rl3
      have E13 := (E1.trans E2).trans E3
      cases e : dGetT kvs3 y with
      | none =>
        rw [g2 e]
        rw [e] at p3
        exact k _ _ p3 m3 H3 _ E13 R3 r3
      | some w =>
        obtain ⟨u, eu, ru⟩ := g1 w e
        rw [eu]
        rw [e] at p3
        exact k _ _ p3 m3 H3 _ E13 R3 ru
    · exact p3.elim
  · exact p1.elim
def sortE : LC := fun vs h P => match vs with
  | [.ref r] => match h[r]? with
    | some (.dic kvs) => ∃ ks : List Int, kvs.map (·.1) = ks.map EV.int ∧ ks.length < 64 ∧ ∀ ys : List Int, ys.Perm ks → ys.Pairwise (· ≤ ·) → P (.ref h.length) (h ++ [.lst (ys.map EV.int)])
    | _ => False
  | _ => False
theorem bK.keysI {K : PySem.W.Frag} {m : Nat → Addr} {n : Nat} {H : Hp} : ∀ {es : List (EV × EV)} {l : List (L2.Key × V)} {ks : List Int}, bK K m n H es l → es.map (·.1) = ks.map EV.int → l.map (·.1) = ks.map Sum.inl
  | [], l, ks, r, e => by
    rw [bK] at r
    subst r
    cases ks with
    | nil => rfl
    | cons => simp at e
  | (a, x) :: es, l, ks, r, e => by
    rw [bK] at r
    obtain ⟨k, v, l', rfl, ra, _, r⟩ := r
    cases ks with
    | nil => simp at e
    | cons i ks =>
      rw [List.map_cons, List.map_cons, List.cons.injEq] at e
      obtain ⟨e1, e2⟩ := e
      have e1 : a = EV.int i := e1
      subst e1
      rw [az] at ra
      have : k = Sum.inl i := by
        cases k with
        | inl j => injection ra with z; rw [z]
        | inr s => cases ra
      rw [List.map_cons, List.map_cons, bK.keysI r e2, this]
theorem lc_sorted {X : Cx} (hc : X.calm = true) : oh X (.builtin "sorted") sortE := by
  refine ⟨_, call_sortedDI hc, fun m h H vs xs P Q R r0 q k => ?_⟩
  unfold sortE at q
  split at q
  · obtain ⟨v, rfl, r⟩ := r0.one_inv
    rw [az] at r
    obtain ⟨_, rfl⟩ := r
    split at q
    · rename_i e
      obtain ⟨l, a, rl⟩ := R.obj _ _ e
      obtain ⟨ks, ek, hl, q⟩ := q
      exact ⟨_, l, ks, rfl, .inl a, rl.keysI ek, hl, fun ys p hp hs hn => k.lst R (q ys hp hs) (rel_ints ys) hn⟩
    · exact q.elim
  · exact q.elim
def dcE (g : EH → Prop) (p : Pat) (tt : LTt) (tk tv : LT) (d : Nat) (env : En) (P : EK) : List EV → EH → Prop
  | [], h => g h ∧ P (.ref d) h
  | x :: xs, h => g h ∧ cH h p x env fun env2 => tt env2 h fun b h3 => if b = true then tk env2 h3 fun y h4 => tv env2 h4 fun z h5 => match h5[d]? with
      | some (.dic kvs) => isKey y ∧ kvs.length < sizeLine ∧ dcE g p tt tk tv d env P xs (h5.set d (.dic (dPut kvs y z)))
      | _ => False
    else dcE g p tt tk tv d env P xs h3
def lDc (ti : LI) (p : Pat) (tt : LTt) (tk tv : LT) (vs : List Nat) : LT := fun env h P => ti env h fun g xs h1 => dcE g p tt tk tv h1.length (aZ env vs) P xs (h1 ++ [.dic []])
section
variable {X : Cx} {pos : Pos}
theorem le_dc {kx vx tg iter : Expr} {ifs : List Expr} {scope : Scope} (own : List (Str × Nat)) {ti : LI} {p : Pat} {tt : LTt} {tk tv : LT} (hc : X.calm = true) (hN : X.N.Nodup) (hi : LIt X tg iter ti) (ok : BlkOk X.N X.env.scope scope own)
    (hp : ∀ i ∈ Pat.slots p, i ∈ own.map (·.2))
    (hg : ∀ (s : Shared) (H : Hp) (C : Addr) (cl : List (Str × Addr)) (fp : List Addr), LG (X.blk s H scope (compEnvC scope cl C X.env) fp) tg p)
    (ht : ∀ (s : Shared) (H : Hp) (C : Addr) (cl : List (Str × Addr)) (fp : List Addr), LTs (X.blk s H scope (compEnvC scope cl C X.env) fp) ifs tt)
    (hk : ∀ (s : Shared) (H : Hp) (C : Addr) (cl : List (Str × Addr)) (fp : List Addr), LE (X.blk s H scope (compEnvC scope cl C X.env) fp) kx tk)
    (he : ∀ (s : Shared) (H : Hp) (C : Addr) (cl : List (Str × Addr)) (fp : List Addr), LE (X.blk s H scope (compEnvC scope cl C X.env) fp) vx tv) (hs : ∀ x, foldedSetIterable iter X.env x = pure x := by intro _; rfl) :
    LE X (.DictComp kx vx [⟨tg, iter, ifs, 0⟩] scope pos) (lDc ti p tt tk tv (own.map (·.2))) := by
  refine ⟨PE.imp (pe_dc (g := gP X.K p) (tt := upT X.K tt) (tk := up X.K tk) (tv := up X.K tv) hc hN hi.pi ok (fun s H C cl fp => (hg s H C cl fp).pg) (fun s H C cl fp => (ht s H C cl fp).pts) (fun s H C cl fp => (hk s H C cl fp).pe) (fun s H C cl fp => (he s H C cl fp).pe) hs) fun σ H Q ⟨m, env, h, P, at_, t1, k⟩ => ⟨m, env, h, _, at_, t1, fun g xs h1 p1 m1 H1 J E1 R1 sim D hD => ?_⟩⟩
  have E2 : Ex X.K m1 h1.length H1 (mput m1 h1.length D) (h1 ++ [EO.dic []]).length (upd H1 D (.dK [])) := Ex.new hD
  have R2 : dD X.K (mput m1 h1.length D) (h1 ++ [EO.dic []]) (upd H1 D (.dK [])) := R1.new hD ⟨[], upd_same, rfl⟩
  refine ⟨fun i c H' => c = xs.length - i ∧ i ≤ xs.length ∧ ∃ m2 h2, Ex X.K m1 h1.length H1 m2 h2.length H' ∧ dD X.K m2 h2 H' ∧ m2 h1.length = D ∧ h1.length < h2.length ∧ dcE g p tt tk tv h1.length (aZ env (own.map (·.2))) P (xs.drop i) h2,
    ⟨xs.length, by simp, Nat.zero_le _, _, _, E2, R2, lU, by simp, by simpa using p1⟩, ?_⟩
  rintro i c H' ⟨rfl, hi, m2, h2, E3, R3, eD, lD, q⟩
  by_cases hlt : i < xs.length
  · have ed : xs.drop i = xs[i] :: xs.drop (i + 1) := List.drop_eq_getElem_cons hlt
    rw [ed, dcE] at q
    obtain ⟨qg, q⟩ := q
    obtain ⟨s1, s2⟩ := sim i h2 m2 H' E3 R3 qg
    obtain ⟨go, yl⟩ := s1 xs[i] (List.getElem?_eq_getElem hlt)
    refine .inr ⟨go, fun H4 => ∃ m4 h4, Ex X.K m1 h1.length H1 m4 h4.length H4 ∧ dD X.K m4 h4 H4 ∧ m4 h1.length = D ∧ h1.length < h4.length ∧ dcE g p tt tk tv h1.length (aZ env (own.map (·.2))) P (xs.drop (i + 1)) h4,
      fun H4 q4 => ⟨xs.length - (i + 1), by omega, rfl, hlt, q4⟩, fun v H4 y => ?_⟩
    obtain ⟨E4, R4, r4⟩ := yl v H4 y
    have E14 := (E1.trans E3).trans E4
    obtain ⟨env5, σ5, q5, f, N5, keep, len⟩ := rE R4 ((at_.nm.ex E14).wipe (own.map (·.2))) r4 q
    refine f _ ⟨wipe_back (ss := Pat.slots p) keep hp (by rw [len, wipe_length]), m2, env5, h2, _, ⟨R4, N5⟩, q5, fun b h6 p6 m6 H6 E6 R6 => ?_⟩
    have E16 := (E3.trans E4).trans E6
    have lt2 := E6.le
    have eD6 : m6 h1.length = D := (E6.eq _ lD).trans eD
    cases b with
    | false =>
      dsimp only
      rw [if_neg Bool.false_ne_true] at p6 ⊢
      exact ⟨m6, h6, E16, R6, eD6, by omega, p6⟩
    | true =>
      dsimp only
      rw [if_pos rfl] at p6 ⊢
      refine ⟨m6, env5, h6, _, ⟨R6, N5.ex E6⟩, p6, fun w h7 p7 m7 H7 y7 E7 R7 r7 => ⟨m7, env5, h7, _, ⟨R7, (N5.ex E6).ex E7⟩, p7, fun z h8 p8 m8 H8 z8 E8 R8 r8 => ?_⟩⟩
      have lt7 := E7.le
      have lt8 := E8.le
      have eD8 : m8 h1.length = D := ((E8.eq _ (by omega)).trans (E7.eq _ (by omega))).trans eD6
      split at p8
      · rename_i kvs e8
        obtain ⟨l, a, rl⟩ := R8.obj _ _ e8
        obtain ⟨hkey, hz, p8⟩ := p8
        have r7' := az.ex E8 _ _ r7
        obtain ⟨k', rfl⟩ := key_of hkey r7'
        rw [eD8] at a
        have ll := bK.length rl
        refine ⟨l, k', rfl, a, by omega, ?_⟩
        have E9 := Ex.write (o := .dK (putK l k' z8)) (e' := EO.dic (dPut kvs w z)) R8 e8
        have R9 := R8.write (o := .dK (putK l k' z8)) (e' := EO.dic (dPut kvs w z)) e8 ⟨_, upd_same, bK.put (az.ex E9 _ _ r7') hkey (az.ex E9 _ _ r8) (rl.ex E9)⟩
        rw [eD8] at E9 R9
        exact ⟨m8, _, ((E16.trans E7).trans E8).trans E9, R9, eD8, by simp; omega, p8⟩
      · exact p8.elim
  · have e : i = xs.length := by omega
    subst e
    rw [List.drop_length, dcE] at q
    obtain ⟨_, s2⟩ := sim xs.length h2 m2 H' E3 R3 q.1
    refine .inl ⟨s2 rfl, k _ _ q.2 m2 H' _ (E1.trans E3) R3 (by rw [az]; exact ⟨lD, by rw [eD]⟩)⟩
end
def KTup (K : PySem.W.Frag) (a : Addr) (xs : List EV) : Prop := xs.all pH = true ∧ ∀ H, SqT K H a (xs.map toV)
theorem flats_toV {K : PySem.W.Frag} {m : Nat → Addr} {n : Nat} {H : Hp} : ∀ {xs : List EV}, xs.all pH = true → aG K m n H xs (xs.map toV)
  | [], _ => .nil
  | x :: xs, f => by
    simp only [List.all_cons, Bool.and_eq_true] at f
    refine .cons ?_ (flats_toV f.2)
    cases x <;> first | (rw [az]; rfl) | (simp [pH] at f; done)
theorem le_gtup {X : Cx} {a : Addr} {xs : List EV} {x : Str} {pos : Pos} (T : KTup X.K a xs) (hg : Gl X x) (hm : X.mg x = some (.ref a)) (hd : (x == ("__debug__" : Str)) = false := by decide) : LE X (.Name x pos) (lC (.ktup xs)) := by
  refine ⟨⟨fun pins s σ H Q I ⟨m, env, h, P, at_, t1, k⟩ => ld_glob I hg hm (s := s) ⟨.ref a, H, I, rfl, k _ _ t1 m H _ .refl at_.hp ?_⟩ hd⟩⟩
  rw [az]
  exact ⟨a, _, rfl, T.2 H, flats_toV T.1⟩
def relsB : List V → List Value → Bool
  | [], [] => true
  | v :: vs, u :: us => He.relB v u && relsB vs us
  | _, _ => false
theorem relsB_ok : ∀ {vs : List V} {us : List Value}, relsB vs us = true → Vals vs us
  | [], [], _ => .nil
  | v :: vs, u :: us, h => by
    obtain ⟨a, b⟩ := He.ba h
    exact .cons (He.relB_ok a) (relsB_ok b)
  | [], _ :: _, h => by cases h
  | _ :: _, [], h => by cases h
def tupB (K : PySem.W.Frag) (a : Addr) (xs : List EV) : Bool := xs.all pH && (match K.lookup a with
  | some ⟨.type c, _, .seq its _, _⟩ => decide (c = "tuple") && (decide (its.size ≤ sizeLine) && relsB (xs.map toV) its.toList)
  | _ => false)
theorem tupB_ok {K : PySem.W.Frag} {a : Addr} {xs : List EV} (h : tupB K a xs = true) : KTup K a xs := by
  obtain ⟨h1, h2⟩ := He.ba h
  refine ⟨h1, fun H => ?_⟩
  cases q : K.lookup a with
  | none => rw [q] at h2; cases h2
  | some o =>
    obtain ⟨oc, od, dt, osl⟩ := o
    rw [q] at h2
    cases oc with
    | type c =>
      cases dt with
      | seq its n =>
        obtain ⟨h3, h4⟩ := He.ba h2
        obtain ⟨h4, h5⟩ := He.ba h4
        have e : c = "tuple" := of_decide_eq_true h3
        subst e
        exact .inr ⟨_, its, n, q, rfl, rfl, of_decide_eq_true h4, relsB_ok h5⟩
      | _ => cases h2
    | _ => cases dt <;> cases h2
def sclsB (K : PySem.W.Frag) (C : Addr) : Bool := PySem.W.plainGet K C Str.empty && (PySem.W.isClsIn K C && (PySem.W.plainOver K C && He.eqO (PySem.W.findIn K (.ref C) "__setattr__") (some (some (.builtin "object.__setattr__")))))
theorem sclsB_ok {K : PySem.W.Frag} {C : Addr} (h : sclsB K C = true) : SlX.SCls K C := by
  obtain ⟨h1, h⟩ := He.ba h
  obtain ⟨h2, h⟩ := He.ba h
  obtain ⟨h3, h⟩ := He.ba h
  exact ⟨h1, h2, h3, He.eqO_ok h⟩
def slotB (K : PySem.W.Frag) (C : Addr) (f : Str) (i : Nat) : Bool := match PySem.W.findIn K (.ref C) f with
  | some (some (.ref p)) => He.eqO (PySem.W.specialIn K (.ref p) "__get__") (some (some (.builtin "member_descriptor.__get__"))) && (decide (PySem.W.takesIn K (.ref p) = some true) && (decide (PySem.W.typeIn K (.ref p) = some (.type "member_descriptor")) && (decide (PySem.W.slotIn K p C = some i) && decide (i < 1000))))
  | _ => false
theorem slotB_ok {K : PySem.W.Frag} {C : Addr} {f : Str} {i : Nat} (h : slotB K C f i = true) : ∃ p, SlX.Slot1 K C f p i := by
  unfold slotB at h
  split at h
  · rename_i p e
    obtain ⟨h1, h⟩ := He.ba h
    obtain ⟨h2, h⟩ := He.ba h
    obtain ⟨h3, h⟩ := He.ba h
    obtain ⟨h4, h⟩ := He.ba h
    exact ⟨p, e, He.eqO_ok h1, of_decide_eq_true h2, of_decide_eq_true h3, of_decide_eq_true h4, of_decide_eq_true h⟩
  · cases h
def isiOkB (K : PySem.W.Frag) (C : Addr) : Bool := PySem.W.plainGet K C "__class__" && (PySem.W.isClsIn K C && (He.eqO (PySem.W.findIn K (.ref C) "__class__") (some (some (.builtin "object.__class__"))) && (He.eqO (PySem.W.specialIn K (.builtin "object.__class__") "__get__") (some (some (.builtin "getset_descriptor.__get__"))) && (decide (PySem.W.takesIn K (.builtin "object.__class__") = some true) && (decide (PySem.W.mroIn K C (.type "object") = some true) && ["int", "bool", "str", "tuple", "dict", "list"].all fun T => decide (PySem.W.kitOne K (.ref C) (.type T) = some false))))))
theorem isiOkB_ok {K : PySem.W.Frag} {C : Addr} (h : isiOkB K C = true) : IsiOk K C := by
  obtain ⟨h1, h⟩ := He.ba h
  obtain ⟨h2, h⟩ := He.ba h
  obtain ⟨h3, h⟩ := He.ba h
  obtain ⟨h4, h⟩ := He.ba h
  obtain ⟨h5, h⟩ := He.ba h
  obtain ⟨h6, h⟩ := He.ba h
  exact ⟨h1, h2, He.eqO_ok h3, He.eqO_ok h4, of_decide_eq_true h5, of_decide_eq_true h6, fun T hT => of_decide_eq_true (List.all_eq_true.mp h T hT)⟩
theorem slot1 {K : PySem.W.Frag} {C : Addr} {f : Str} {i : Nat} (c : SlX.SCls K C) (s : ∃ p, SlX.Slot1 K C f p i) : SlotOf K f [(C, i)] := by
  intro q hq
  rw [List.mem_singleton.mp hq]
  exact ⟨c, s⟩
theorem met1 {X : Cx} {C g : Addr} {m : Str} {sp : LSp} {k : Nat} {fd : FuncData} {ps : List Str} (c : SlX.SCls X.K C) (hm : Meth X.K C m g) (F : FnG X.prog X.w X.K X.mg X.base k g fd ps sp) (hr : Room k X.A) (hb : Binds X.K fd ps []) :
    MetOf X m (List.lookup · [(C, sp)]) := by
  intro D sp' e
  have q := lookup_mem (show List.lookup D [(C, sp)] = some sp' from e)
  have e2 := List.mem_singleton.mp q
  cases e2
  exact ⟨c, g, k, fd, ps, hm, F, hr, hb⟩
section
variable {X : Cx} {pos : Pos}
end
def lLstRg1 (ta : LT) : LT := fun env h P => ta env h fun v h1 => match v with
  | .int j => (j ≤ 16777216 ∧ 0 ≤ j) ∧ P (.ref h1.length) (h1 ++ [.lst (eZ 0 j.toNat)])
  | _ => False
theorem rel_rg {K : PySem.W.Frag} {m : Nat → Addr} {n : Nat} {H : Hp} (a : Int) (k : Nat) : aG K m n H (eZ a k) ((List.range k).map fun (i : Nat) => V.int (a + i)) := by
  unfold eZ
  generalize List.range k = l
  induction l with
  | nil => exact .nil
  | cons i l ih => exact .cons (by rw [az]) ih
section
variable {X : Cx} {a b : Expr} {ta tb : LT} {p p2 q pos : Pos}
theorem le_lrg1 (hg : Gl X "list") (hm : X.mg "list" = none) (hg2 : Gl X "range") (hm2 : X.mg "range" = none) (ha : LE X a ta) (hc : X.calm = true := by rfl) (na : starEach [a] X.env = (false, eval a X.env) :: starEach [] X.env := by rfl)
    (na2 : starEach [.Call (.Name "range" p2) [a] [] q] X.env = (false, eval (.Call (.Name "range" p2) [a] [] q) X.env) :: starEach [] X.env := by rfl) : LE X (.Call (.Name "list" p) [.Call (.Name "range" p2) [a] [] q] [] pos) (lLstRg1 ta) := by
  refine ⟨PE.imp (pe_listRg hc hg hm (prg_1 hg2 hm2 ha.pe na) na2) fun σ H Q ⟨m, env, h, P, at_, t1, k⟩ => ⟨m, env, h, _, at_, t1, fun v h1 p1 m1 H1 x E1 R1 r1 => ?_⟩⟩
  split at p1
  · rename_i j
    rw [az] at r1
    subst r1
    refine ⟨j, rfl, RgOk.of_le (by decide) p1.1.1 (by decide) p1.1.2, fun q hq => ?_⟩
    have e : rgV 0 j = (List.range j.toNat).map fun (i : Nat) => V.int (0 + i) := by
      unfold rgV; rw [Int.sub_zero]
    rw [e]
    exact (k.ex E1).lst R1 p1.2 (rel_rg 0 _) hq
  · exact p1.elim
end
theorem u1 {k : Nat} {A : Around} (r : Room k A) : A.units + 1 < cLine := by have := r.un; omega
theorem u65 {k : Nat} {A : Around} (r : Room k A) : A.units + 65 < cLine := by have := r.un; omega
theorem sa_l {h : EH} {b : Nat} {xs : List EV} {i : Int} {v : EV} {k : Nat} {p : EH → Prop} (e : h[b]? = some (.lst xs)) (a : ixN xs.length i = some k) (q : p (h.set b (.lst (xs.set k v)))) : setA (.ref b) (.int i) v h p := by
  unfold setA; simp only [e]; exact set_l e a q
def lDispT (tk tv : LT) : LT := fun env h P => tk env (h ++ [.dct []]) fun k h1 => tv env h1 fun v h2 => h2[h.length]? = some (.dct []) ∧ isKeyT k ∧ P (.ref h.length) (h2.set h.length (.dct [(k, v)]))
theorem le_dispT {X : Cx} {kx vx : Expr} {tk tv : LT} {pos : Pos} (hu : X.A.units + 1 < cLine) (hk : LE X kx tk) (hv : LE X vx tv) : LE X (.Dict [some kx] [vx] pos) (lDispT tk tv) := by
  refine ⟨⟨fun pins s σ H Q I ⟨m, env, h, P, at_, t1, k⟩ => ?_⟩⟩
  have hn := I.hok.fresh (Nat.le_refl s.heap.objs.size)
  have I1 := I.laid (a := s.heap.objs.size) (o := .dT []) (h' := s.heap.push { cls := .type "dict", data := .dict #[] }) (t' := s.toks) (fun _ _ q => Heap.get?_push_of_some _ q) (Nat.le_refl _) (dt_empty s.heap I.big)
  have E0 : Ex X.K m h.length H (mput m h.length s.heap.objs.size) (h ++ [EO.dct []]).length (upd H s.heap.objs.size (.dT [])) := Ex.new hn
  have R0 : dD X.K (mput m h.length s.heap.objs.size) (h ++ [EO.dct []]) (upd H s.heap.objs.size (.dT [])) := at_.hp.new hn ⟨[], upd_same, rfl⟩
  rw [arm_eval_Dict, zip_pairTrees [some kx] [vx] X.env pos rfl rfl, dictDisplay_pairs (pairTrees [some kx] [vx] X.env pos) (by simp [pairTrees]) (by simp [pairTrees])]
  refine wpAny_bind (wpAny_standAt (wpAny_bind (wpAny_subDictH (knd := tupleKind (mixKind X.prog X.w)) (Q := fun d s' => wpAny (model X.prog X.w) X.A (pure (Value.ref d)) (EP X pins σ Q) X.xe s') (by show X.A.units < cLine; omega) (by simp [pairTrees]) ?_)))
  refine pairTrees_cons_walk (thn (hk.pe.run pins _ σ _ (fun x H1 => up X.K tv σ H1 fun y H2 => ∃ (k' : List L2.Key) (b : Addr), x = .ref b ∧ H2 b = some (.tup (k'.map kV)) ∧ H2 s.heap.objs.size = some (.dT []) ∧ Q (.ref s.heap.objs.size) (upd H2 s.heap.objs.size (.dT [(k', y)]))) I1
    ⟨_, env, _, _, at_.ex E0 R0, t1, fun x h1 p1 m1 H1 xv E1 R1 r1 => ⟨m1, env, h1, _, (at_.ex E0 R0).ex E1 R1, p1, fun y h2 p2 m2 H2 yv E2 R2 r2 => ?_⟩⟩) ?_)
  · obtain ⟨e2, hkt, p2⟩ := p2
    have r1' := az.ex E2 _ _ r1
    obtain ⟨k', b, ek, rfl, hb⟩ := keyT_of hkt r1'
    obtain ⟨l, a, rl⟩ := R2.obj _ _ e2
    rw [bY] at rl
    subst rl
    have em : m2 h.length = s.heap.objs.size := by
      rw [E2.eq _ (Nat.lt_of_lt_of_le (by simp) E1.le), E1.eq _ (by simp), lU]
    rw [em] at a
    have Ew := Ex.write (o := .dT [(k', yv)]) (e' := EO.dct [(x, y)]) R2 e2
    have Rw := R2.write (o := .dT [(k', yv)]) (e' := EO.dct [(x, y)]) e2 ⟨_, upd_same, by rw [bY]; exact ⟨k', yv, [], rfl, ek, az.ex Ew _ _ r2, rfl⟩⟩
    rw [em] at Ew Rw
    refine ⟨k', b, rfl, hb, a, k _ _ p2 _ _ _ (((E0.trans E1).trans E2).trans Ew) Rw ?_⟩
    rw [az]
    have l1 := E1.le
    have l2 := E2.le
    simp only [List.length_append, List.length_singleton] at l1
    exact ⟨by simp; omega, by rw [em]⟩
  · rintro kv s1 ⟨x, H1, I2, rx, q1⟩
    refine thn (hv.pe.run pins s1 σ H1 _ I2 q1) fun vv s2 ⟨y, H2, I3, ry, q2⟩ => pairTrees_nil_walk ?_
    obtain ⟨k', b, rfl, hb, hd, q⟩ := q2
    obtain rfl : kv = Value.ref b := rx
    obtain ⟨z, hz, xs0, r0, dd⟩ := dt_of I3.hok hd
    cases r0
    refine ⟨[(k', b, vv)], ⟨rfl, rfl, L2.key_of I3.hok hb, trivial⟩, dd, fun h' tk dd' hs => wpAny_pure ⟨.ref s.heap.objs.size, _, ?_, rfl, q⟩⟩
    have dd2 : h'.DictOfH (tupleKind (mixKind X.prog X.w)) s.heap.objs.size [(k', b, vv)] := dd'
    obtain ⟨ob, es, ep, hq, h2, h3, h4, _, h5⟩ := dd2
    refine d_write I3 (by rw [hd]; exact True.intro) hs ⟨ob, hq⟩ ⟨by simp [sizeLine_eq], hz, [(k', b, vv)], .cons ⟨rfl, ?_, ry⟩ .nil, ob, es, ep, hq, h2, h3, h4, h5⟩
    rw [upd_ne (ne_of hb hd (fun z => nomatch z))]
    exact hb
theorem lookup_rel {env : Env} : ∀ {names : List (Str × NameKind)} {x : Str}, names.lookup x = some .cell ∨ names.lookup x = some .free →
    (names.map fun (n, k) => if (k == NameKind.free && env.scope.kind == .function && env.kindOf n == some .cell) then (n, NameKind.cell) else (n, k)).lookup x = some .cell ∨ (names.map fun (n, k) => if (k == NameKind.free && env.scope.kind == .function && env.kindOf n == some .cell) then (n, NameKind.cell) else (n, k)).lookup x = some .free
  | [], _, h => by simp at h
  | (n, k) :: r, x, h => by
    have ih := @lookup_rel env r x
    rw [List.map_cons]
    cases hx : x == n with
    | true =>
      simp only [List.lookup_cons, hx] at h
      by_cases hc : (k == NameKind.free && env.scope.kind == .function && env.kindOf n == some .cell) = true
      · left
        simp only [hc, if_true, List.lookup_cons, hx]
      · simp only [hc, if_false, List.lookup_cons, hx, Bool.false_eq_true]
        exact h
    | false =>
      simp only [List.lookup_cons, hx] at h
      have ih := ih h
      by_cases hc : (k == NameKind.free && env.scope.kind == .function && env.kindOf n == some .cell) = true
      · simp only [hc, if_true, List.lookup_cons, hx]; exact ih
      · simp only [hc, if_false, List.lookup_cons, hx, Bool.false_eq_true]; exact ih
theorem blkOk_in {X : Cx} {s : Shared} {H : Hp} {sc : Scope} {C : Addr} {cl : List (Str × Addr)} {fp : List Addr} {N : List Str} {scope : Scope} {own : List (Str × Nat)} (hN : X.N = N) (h : blkC N sc scope own = true) :
    BlkOk (X.blk s H sc (compEnvC sc cl C X.env) fp).N (X.blk s H sc (compEnvC sc cl C X.env) fp).env.scope scope own := by
  subst hN
  have b := blkOk_by h
  exact ⟨b.kind, b.uniq, b.ix, fun y hy e => lookup_rel (b.free y hy e), b.own⟩
end Y
namespace Y
open PySem PySem.Spec PyProof.Rows L2 HT
section
variable {prog : Program} {w : World} {A : Around} {E : Value → Shared → Prop} {s : Shared}
end
end Y
namespace Y
open PySem PySem.Spec PyProof.Rows L2
end Y
namespace Y
open PySem PySem.Spec PyProof.Rows L2 PySem.W
section
variable {prog : Program} {w : World} {A : Around} {E : Value → Shared → Prop} {s : Shared} {x : Str} {t : Tok}
end
end Y
namespace Y
open PySem PySem.Spec PyProof.Rows L2
section
variable {X : Cx} {a b : Expr} {ta tb : LT} {pos : Pos} {rest : List Expr}
end
section
variable {X : Cx}
end
section
variable {X : Cx}
end
section
variable {X : Cx} {a b : Expr} {ta tb : LT} {p p2 q pos : Pos}
end
section
variable {K : PySem.W.Frag} {m : Nat → Addr} {H : Hp} {h : EH}
end
section
variable {X : Cx} {pins : List (Addr × Obj)} {σ : L2.St} {H : Hp} {s : Shared}
end
section
variable {X : Cx}
end
section
variable {X : Cx} {pins : List (Addr × Obj)} {σ : L2.St} {H : Hp} {s : Shared}
end
section
variable {X : Cx}
end
section
variable {P : Program} {w : World} {K : PySem.W.Frag} {A : Around} {hp : Heap} {g : Array GenState} {dr : Drawn} {tk : Nat} {os : OsState} {C fI e t0 : Addr} {x f : Str} {u : Value} {R : Result → Shared → Prop}
end
section
variable {X : Cx} {C : Addr} {x f : Str}
end
section
variable {K : PySem.W.Frag} {m m' : Nat → Addr} {n n' : Nat} {H H' : Hp} {h h' : EH}
end
abbrev EW := Addr → List (Str × EV) → En → EH → Prop
abbrev ED := Addr → List (Str × EV) → EH → Prop
section
variable {X : Cx} {W : EW}
end
abbrev LSpX := List EV → EH → EK → ED → Prop
section
variable {X : Cx} {k : Nat} {f : Addr} {fd : FuncData} {ps : List Str} {sp : LSpX} {W : EW} {x : Str} {p pos : Pos} {e : Expr} {es : List Expr} {t : LA}
end
section
variable {X : Cx}
end
section
variable {K : PySem.W.Frag} {m m' : Nat → Addr} {n n' : Nat} {H H' : Hp} {h h' : EH}
end
section
variable {X : Cx}
end
section
variable {X : Cx}
end
section
variable {K : PySem.W.Frag} {m : Nat → Addr} {h : EH} {H : Hp}
end
section
variable {K : PySem.W.Frag} {m : Nat → Addr} {h : EH} {H : Hp}
end
section
variable {M : Model} {A : Around} {E : Value → Shared → Prop} {s : Shared} {env : Env}
end
section
variable {X : Cx} {pos pos' apos : Pos} {o e : Expr} {es : List Expr} {to te : LT} {t : LA} {W : EW}
end
end Y
namespace PySem
open Sem (wp)
set_option maxHeartbeats 1000000 in
theorem meets_enumerate_new1 {v : Value} {o : Obj} {H : Heap → Prop} (B : Begins v o H) :
    Meets (Builtin.«enumerate.__new__» ⟨[.type "enumerate", v], []⟩) (fun _ R s => H s.heap ∧
      R (.ok (.ret (.ref (s.heap.push o).objs.size))) { s with heap := (s.heap.push o).push { cls := .type "enumerate", data := .fields #[.none, .bool false, .ref s.heap.objs.size, rawInt 0, .none, .none] } }) :=
  .of_wp fun prog w A R s h => by
    obtain ⟨hp, g, d, tk, os⟩ := s; obtain ⟨h1, h⟩ := h
    have hsub := sub_enumerate
    have q1 : ∀ {A' : Around} {E : Value → Shared → Prop} {Q : Value → Shared → Prop}, Q (.ref hp.objs.size) ⟨hp.push o, g, d, tk, os⟩ → wpAny (model prog w) A' (pyIter v) Q E ⟨hp, g, d, tk, os⟩ :=
      fun q => B.iter prog w _ _ ⟨hp, g, d, tk, os⟩ _ h1 q
    wp_walk using q1
    refine wpAny_stack_any fun st => wpAny_pure ?_
    split
    · rename_i c _ _ _ _ _
      cases (c == Value.type "enumerate")
      · wp_walk using q1
        exact ⟨_, rfl, h⟩
      · wp_walk using q1
        exact ⟨_, rfl, h⟩
    · wp_walk using q1
      exact ⟨_, rfl, h⟩
section
variable {prog : Program} {w : World} {A : Around} {E : Value → Shared → Prop} {s : Shared}
end
end PySem
namespace Y
open PySem PySem.Spec PyProof.Rows L2
section
variable {X : Cx}
end
end Y
namespace Y
open PySem PySem.Spec PyProof.Rows L2
set_option maxHeartbeats 4000000 in
theorem tuple_mul1 (l : Addr) (items : Array Value) (n : Nat) (dd : Option Addr) (sl : Array (Option Value)) (u : Tok) :
    Meets (Builtin.«tuple.__mul__» ⟨[.ref l, .int 1 u], []⟩) (fun _ R s => s.heap.get? l = some { cls := .type "tuple", dict := dd, data := .seq items n, slots := sl } ∧
      R (.ok (.ret (Value.ref l))) s) :=
  .of_wp fun prog w A R s h => by
    obtain ⟨hp, g, d, tk, os⟩ := s
    obtain ⟨hl, h⟩ := h
    have f1 := AutoSeq1.idx_int
    have c0 : (decide ((1 : Int) < -(2 ^ 63)) || decide ((1 : Int) ≥ 2 ^ 63)) = false := by decide
    have c1 : (items.isEmpty || ((1 : Int) == 1)) = true := by simp
    wp_walk using wpAny_loadPart' hl
    repeat (first
      | (refine wpAny_ite_false (decide_eq_false (by rw [c0]; exact Bool.false_ne_true)) ?_; wp_walk using wpAny_loadPart' hl)
      | (refine wpAny_ite_true (decide_eq_true (by rw [c1])) ?_; wp_walk using wpAny_loadPart' hl))
    exact ⟨_, rfl, h⟩
set_option maxHeartbeats 4000000 in
theorem tuple_mul0 (l : Addr) (items : Array Value) (n : Nat) (dd : Option Addr) (sl : Array (Option Value)) (u : Tok) (c : items.isEmpty = false) :
    Meets (Builtin.«tuple.__mul__» ⟨[.ref l, .int 0 u], []⟩) (fun _ R s => s.heap.get? l = some { cls := .type "tuple", dict := dd, data := .seq items n, slots := sl } ∧
      R (.ok (.ret (Value.ref s.heap.objs.size))) { s with heap := s.heap.push { cls := Value.type "tuple", data := Data.seq #[] }, toks := s.toks }) :=
  .of_wp fun prog w A R s h => by
    obtain ⟨hp, g, d, tk, os⟩ := s
    obtain ⟨hl, h⟩ := h
    have f1 := AutoSeq1.idx_int
    have c0 : (decide ((0 : Int) < -(2 ^ 63)) || decide ((0 : Int) ≥ 2 ^ 63)) = false := by decide
    have c1 : (items.isEmpty || ((0 : Int) == 1)) = false := by rw [c]; rfl
    have c2 : (decide ((0 : Int) ≤ 0) || items.isEmpty) = true := by simp
    wp_walk using wpAny_loadPart' hl
    repeat (first
      | (refine wpAny_ite_false (decide_eq_false (by rw [c0]; exact Bool.false_ne_true)) ?_; wp_walk using wpAny_loadPart' hl)
      | (refine wpAny_ite_false (decide_eq_false (by rw [c1]; exact Bool.false_ne_true)) ?_; wp_walk using wpAny_loadPart' hl)
      | (refine wpAny_ite_true (decide_eq_true (by rw [c2])) ?_; wp_walk using wpAny_loadPart' hl))
    exact ⟨_, rfl, h⟩
section
variable {X : Cx}
end
end Y
namespace Y
open PySem PySem.Spec PyProof.Rows L2
def obsZ (n : Nat) (fa : List He.Fa) (fn : List He.DefD) (ts : List He.Tab) (ex : PySem.W.Frag → Bool) (g : Addr → Option Obj) : He.AlX := (He.obsT fa fn ts (He.frT g (List.range n)), ex (He.frT g (List.range n)))
def hookZ (n : Nat) (fa : List He.Fa) (fn : List He.DefD) (ts : List He.Tab) (ex : PySem.W.Frag → Bool) : PySem.W.Hook where
  α := He.AlX
  obs := fun s => obsZ n fa fn ts ex s.heap.get?
  val := fun w => He.valX fn ts w
  says := fun w h => ∃ K : PySem.W.Frag, K.In h ∧ He.SaysX fa fn ts [] ex w h K
  of := fun w s e => ⟨He.frT s.heap.get? (List.range n), He.frT_in, { t := congrArg (fun z : He.AlX => z.1) e, more := congrArg (fun z : He.AlX => z.2) e, hd := fun p hp => by simp at hp, out := fun p hp => by simp at hp, empty := fun p hp => by simp at hp }⟩
  keeps := fun _ _ _ ⟨K, hK, c⟩ k => ⟨K, PySem.W.Frag.In.keeps hK k, ⟨c.t, c.more, c.hd, c.out, fun p hp => k _ _ (c.empty p hp)⟩⟩
theorem obsZ_eq {n : Nat} {fa : List He.Fa} {fn : List He.DefD} {ts : List He.Tab} {ex : PySem.W.Frag → Bool} {g : Addr → Option Obj} {s : Shared} (h : ∀ a, g a = s.heap.get? a) : obsZ n fa fn ts ex g = (hookZ n fa fn ts ex).obs s := by
  have e : g = s.heap.get? := funext h
  rw [e] <;> rfl
end Y
namespace Y
open PySem PySem.Spec PyProof.Rows L2
open AutoSeq1 (wpAny_loadPart')
section
variable {X : Cx}
end
end Y
namespace Y
open PySem PySem.Spec PyProof.Rows L2
section
variable {X : Cx} {W : EW}
end
section
variable {X : Cx}
end
section
variable {K : PySem.W.Frag} {m' : Nat → Addr} {H' : Hp} {h' : EH}
end
section
variable {X : Cx}
end
section
variable {X : Cx} {a b : Expr} {t : TA} {ta : LA} {p1 p2 p3 pos : Pos}
end
section
variable {X : Cx} {a b : Expr} {ta : LA} {p1 p2 p3 pos : Pos}
end
theorem vals_ints : ∀ {ss : List Int} {us : List Value}, Vals (ss.map V.int) us → IntsAre us ss
  | [], us, r => by rw [List.map_nil] at r; cases r; exact .nil
  | s :: ss, us, r => by
    rw [List.map_cons] at r
    cases r with
    | cons h t =>
      obtain ⟨k, rfl⟩ := h
      exact .cons _ _ (vals_ints t)
section
variable {X : Cx}
end
section
variable {X : Cx}
end
section
variable {K : PySem.W.Frag} {m : Nat → Addr} {H : Hp} {h : EH}
end
section
variable {X : Cx} {pins : List (Addr × Obj)} {σ : L2.St} {H : Hp} {s : Shared}
end
section
variable {X : Cx}
end
section
variable {X : Cx}
end
section
variable {X : Cx} {pos p : Pos} {e : Expr} {es : List Expr} {t : LA} {W : EW} {k : Nat} {g C : Addr} {fd : FuncData} {ps : List Str} {sp : LSpX} {x : Str}
end
section
variable {K : PySem.W.Frag} {m : Nat → Addr} {H : Hp} {h : EH}
end
section
variable {X : Cx} {pins : List (Addr × Obj)} {σ : L2.St} {H : Hp} {s : Shared}
end
section
variable {X : Cx}
end
section
variable {P : Program} {w : World} {K : PySem.W.Frag} {A : Around} {hp : Heap} {g0 : Array GenState} {dr : Drawn} {tk : Nat} {os : OsState} {C fI e t0 : Addr} {x y f g : Str} {u v : Value} {R : Result → Shared → Prop}
end
section
variable {X : Cx} {C : Addr} {x y f g : Str}
end
section
variable {X : Cx} {W : EW}
end
section
variable {K : PySem.W.Frag} {m m' : Nat → Addr} {n n' : Nat} {H H' : Hp} {h h' : EH}
end
section
variable {X : Cx}
end
end Y
namespace Y
open PySem PySem.Spec PyProof.Rows L2 HT
section
variable {prog : Program} {w : World} {A : Around} {E : Value → Shared → Prop} {s : Shared}
end
end Y
namespace Y
open PySem PySem.Spec PyProof.Rows L2
section
variable {X : Cx}
end
section
variable {X : Cx}
end
section
variable {X : Cx}
end
section
variable {X : Cx} {pins : List (Addr × Obj)} {σ : L2.St} {H : Hp} {s : Shared} {d : Addr} {o : Obj}
end
theorem keysL_back {K : PySem.W.Frag} {m : Nat → Addr} {n : Nat} {H : Hp} : ∀ {ks : List EV} {k : List L2.Key}, mY ks = some k → aG K m n H ks (k.map kV)
  | [], k, e => by rw [mY] at e; cases e; rw [aG]; rfl
  | .int i :: ks, k, e => by
    rw [mY] at e
    obtain ⟨q, hq, rfl⟩ := Option.map_eq_some_iff.mp e
    exact .cons (by rw [az]; rfl) (keysL_back hq)
  | .str s :: ks, k, e => by
    rw [mY] at e
    obtain ⟨q, hq, rfl⟩ := Option.map_eq_some_iff.mp e
    exact .cons (by rw [az]; rfl) (keysL_back hq)
  | .non :: _, _, e => by simp [mY] at e
  | .bl _ :: _, _, e => by simp [mY] at e
  | .tup _ :: _, _, e => by simp [mY] at e
  | .ktup _ :: _, _, e => by simp [mY] at e
  | .ref _ :: _, _, e => by simp [mY] at e
  | .adr _ :: _, _, e => by simp [mY] at e
  | .ty _ :: _, _, e => by simp [mY] at e
theorem keyL_back {K : PySem.W.Frag} {m : Nat → Addr} {n : Nat} {H : Hp} {a : EV} {k : List L2.Key} {q : Addr} (e : keyL a = some k) (hq : H q = some (.tup (k.map kV))) : az K m n H a (.ref q) := by
  cases a with
  | tup ks =>
    rw [az]
    exact ⟨q, _, rfl, hq, keysL_back e⟩
  | _ => simp [keyL] at e
theorem bY.at {K : PySem.W.Frag} {m : Nat → Addr} {n : Nat} {H : Hp} : ∀ {es : List (EV × EV)} {l : List (List L2.Key × V)} {i : Nat} {p : EV × EV}, bY K m n H es l → es[i]? = some p → ∃ k v, l[i]? = some (k, v) ∧ keyL p.1 = some k ∧ az K m n H p.2 v
  | [], l, i, p, r, e => by simp at e
  | (a, x) :: es, l, 0, p, r, e => by
    rw [bY] at r
    obtain ⟨k', v, l', rfl, ra, rx, r⟩ := r
    simp only [gZ, Option.some.injEq] at e
    subst e
    exact ⟨k', v, rfl, ra, rx⟩
  | (a, x) :: es, l, i + 1, p, r, e => by
    rw [bY] at r
    obtain ⟨k', v, l', rfl, ra, rx, r⟩ := r
    simp only [gS] at e ⊢
    exact bY.at r e
def lLockT (t : LS) : LS := fun D env h => ∃ r kvs, h[r]? = some (.dct kvs) ∧ ∀ od l, t { nx := fun e h' => h'[r]? = some (.dlt od l kvs) ∧ D.nx e (h'.set r (.dct kvs)), rt := fun v h' => h'[r]? = some (.dlt od l kvs) ∧ D.rt v (h'.set r (.dct kvs)), bk := fun e h' => h'[r]? = some (.dlt od l kvs) ∧ D.bk e (h'.set r (.dct kvs)), ct := fun e h' => h'[r]? = some (.dlt od l kvs) ∧ D.ct e (h'.set r (.dct kvs)) } env (h.set r (.dlt od l kvs))
theorem ls_lockT {X : Cx} {st : Stmt} {t : LS} (hs : LSt X st t) : LSt X st (lLockT t) := by
  refine ⟨PS.imp (ps_lock hs.ps) fun D σ H ⟨m, env, h, P, at_, t1, k⟩ => ?_⟩
  obtain ⟨r, kvs, er, t1⟩ := t1
  obtain ⟨l, a, rl⟩ := at_.hp.obj _ _ er
  refine ⟨m r, .dT l, a, trivial, fun od => ?_⟩
  have E := Ex.write (o := .frz od (.dT l)) (e' := EO.dlt od l kvs) at_.hp er
  have R := at_.hp.write (o := .frz od (.dT l)) (e' := EO.dlt od l kvs) er ⟨upd_same, rl.ex E⟩
  have hr := cC er
  have back : ∀ (h' : EH) (m' : Nat → Addr) (H' : Hp), h'[r]? = some (.dlt od l kvs) → Ex X.K m (h.set r (.dlt od l kvs)).length (upd H (m r) (.frz od (.dT l))) m' h'.length H' → dD X.K m' h' H' →
      H' (m r) = some (.frz od (.dT l)) ∧ Ex X.K m' h'.length H' m' (h'.set r (.dct kvs)).length (upd H' (m r) (.dT l)) ∧ dD X.K m' (h'.set r (.dct kvs)) (upd H' (m r) (.dT l)) := by
    intro h' m' H' p E' R'
    have em : m' r = m r := E'.eq r (by simpa using hr)
    obtain ⟨a', rl'⟩ := R'.obj _ _ p
    have E2 := Ex.write (o := .dT l) (e' := EO.dct kvs) R' p
    have R2 := R'.write (o := .dT l) (e' := EO.dct kvs) p ⟨l, upd_same, rl'.ex E2⟩
    rw [em] at a' E2 R2
    exact ⟨a', E2, R2⟩
  refine ⟨m, env, _, _, at_.ex E R, t1 od l, fun e' h' p m' H' σ' E' a' => ?_, fun v h' p m' H' x E' R' r' => ?_, fun e' h' p m' H' σ' E' a' => ?_, fun e' h' p m' H' σ' E' a' => ?_⟩
  · obtain ⟨b1, b2, b3⟩ := back h' m' H' p.1 E' a'.hp
    exact ⟨b1, k.nx _ _ p.2 m' _ σ' ((E.trans E').trans b2) ⟨b3, a'.nm.ex b2⟩⟩
  · obtain ⟨b1, b2, b3⟩ := back h' m' H' p.1 E' R'
    exact ⟨b1, k.rt _ _ p.2 m' _ _ ((E.trans E').trans b2) b3 (az.ex b2 _ _ r')⟩
  · obtain ⟨b1, b2, b3⟩ := back h' m' H' p.1 E' a'.hp
    exact ⟨b1, k.bk _ _ p.2 m' _ σ' ((E.trans E').trans b2) ⟨b3, a'.nm.ex b2⟩⟩
  · obtain ⟨b1, b2, b3⟩ := back h' m' H' p.1 E' a'.hp
    exact ⟨b1, k.ct _ _ p.2 m' _ σ' ((E.trans E').trans b2) ⟨b3, a'.nm.ex b2⟩⟩
def lKeysT (te : LT) : LI := fun env h P => te env h fun v h1 => match v with
  | .ref r => match h1[r]? with
    | some (.dlt o l kvs) => P (fun h' => h'[r]? = some (.dlt o l kvs)) (kvs.map (·.1)) h1
    | _ => False
  | _ => False
theorem lit_keysT {X : Cx} {tg e : Expr} {te : LT} (he : LE X e te) : LIt X tg e (lKeysT te) := by
  refine ⟨PI.imp (pi_keys he.pe) fun σ H R ⟨m, env, h, P, at_, t1, k⟩ => ⟨m, env, h, _, at_, t1, fun v h1 p1 m1 H1 x E1 R1 r1 => ?_⟩⟩
  split at p1
  · rename_i r
    rw [az] at r1
    obtain ⟨hr, rfl⟩ := r1
    split at p1
    · rename_i o l kvs er
      obtain ⟨a, rl⟩ := R1.obj _ _ er
      refine ⟨_, o, rfl, .inr ⟨l, a, k _ _ h1 p1 m1 H1 _ E1 R1 fun i h' m' H' E' R' gh => ?_⟩⟩
      obtain ⟨a', rl'⟩ := R'.obj _ _ gh
      rw [E'.eq _ hr] at a'
      have ll := bY.length rl'
      refine ⟨fun z hz => ?_, fun hi => ⟨a', by rw [List.length_map] at hi; omega⟩⟩
      rw [List.getElem?_map] at hz
      obtain ⟨p, hp, rfl⟩ := Option.map_eq_some_iff.mp hz
      obtain ⟨k2, v2, e2, ra, rb⟩ := bY.at rl' hp
      refine ⟨⟨a', (List.getElem?_eq_some_iff.mp e2).1⟩, fun v H2 ⟨eH, k3, v3, q, e3, ev, hq⟩ => ?_⟩
      rw [e2] at e3
      cases e3
      subst ev eH
      exact ⟨.refl, R', keyL_back ra hq⟩
    · exact p1.elim
  · exact p1.elim
section
variable {X : Cx}
end
section
variable {X : Cx}
end
section
variable {X : Cx}
end
section
variable {X : Cx}
end
def rEqN (K : PySem.W.Frag) : R2 := fun x y H Q => ∃ a b xs, x = .ref a ∧ y = .ref b ∧ SqL K H a xs ∧ SqL K H b [] ∧ Q (.bl (decide (xs = []))) H
theorem op_eqN {X : Cx} (hu : X.A.units + 64 < cLine) : OpR X (compareOp .Eq) (rEqN X.K) := by
  intro pins s σ H x y v u Q I rx ry h
  obtain ⟨a, b, xs, rfl, rfl, ha, hb, q⟩ := h
  cases rx
  cases ry
  obtain ⟨its, r, ⟨o, n, e, c, _, d⟩, _⟩ := I.list ha
  obtain ⟨its2, r2, ⟨o2, n2, e2, c2, _, d2⟩, _⟩ := I.list hb
  cases r2
  have l1 : s.heap.IsList a its.toArray := ⟨o, e, c, n, d⟩
  have l2 : s.heap.IsList b #[] := ⟨o2, e2, c2, n2, d2⟩
  cases r with
  | nil => exact PySem.SeqAt.eq_listAt (e := fun _ => true) l1 l2 rfl (by omega) (fun j h1 => absurd h1 (by simp)) ⟨.bl true, H, I, rfl, q⟩
  | cons r1 r2 =>
    rw [decide_eq_false (by simp)] at q
    exact PySem.SeqAt.eq_list_lengthsAt l1 l2 (by simp) (by omega) ⟨.bl false, H, I, rfl, q⟩
def eqN : LO := fun v w h P => match v, w with
  | .ref a, .ref b => match h[a]?, h[b]? with
    | some (.lst xs), some (.lst []) => P (.bl (decide (xs = []))) h
    | _, _ => False
  | _, _ => False
theorem lo_eqN {X : Cx} (hu : X.A.units + 64 < cLine) : pW X (compareOp .Eq) eqN := by
  refine ⟨rEqN X.K, op_eqN hu, fun m h H v w x y P Q R rx ry q k => ?_⟩
  unfold eqN at q
  split at q
  · rename_i a b
    split at q
    · rename_i xs e1 e2
      rw [az] at rx ry
      obtain ⟨_, rfl⟩ := rx
      obtain ⟨_, rfl⟩ := ry
      obtain ⟨vs, hv, t⟩ := R.obj _ _ e1
      obtain ⟨vs2, hv2, t2⟩ := R.obj _ _ e2
      rw [aG] at t2
      subst t2
      have hl := t.length
      have : decide (xs = []) = decide (vs = []) := by
        cases xs <;> cases vs <;> simp at hl ⊢
      rw [this] at q
      exact ⟨_, _, vs, rfl, rfl, SqL.of hv, SqL.of hv2, k.same R q (by rw [az])⟩
    · exact q.elim
  · exact q.elim
theorem eqN_l {a b : Nat} {xs : List EV} {h : EH} {P : EK} (e : h[a]? = some (.lst xs)) (e2 : h[b]? = some (.lst [])) (p : P (.bl (decide (xs = []))) h) : eqN (.ref a) (.ref b) h P := by
  unfold eqN; simp only [e, e2]; exact p
end Y
namespace Y
open PySem PySem.Spec PyProof.Rows L2
open AutoSeq1 (wpAny_loadPart')
section
variable {X : Cx}
end
end Y
namespace Y
open PySem PySem.Spec PyProof.Rows L2
section
open PySem.W
variable {prog : Program} {w : World} {A : Around} {E : Value → Shared → Prop} {s : Shared} {K : PySem.W.Frag} {x D : Addr} {ox : Obj} {od : Option Obj}
end
section
variable {X : Cx}
end
section
variable {K : PySem.W.Frag} {m m' : Nat → Addr} {n n' : Nat} {H H' : Hp} {h h' : EH}
end
section
variable {X : Cx}
end
section
variable {X : Cx}
end
section
variable {X : Cx} {k : Nat} {f : Addr} {fd : FuncData} {ps : List Str} {sp : LSp} {x : Str} {p pos : Pos} {e : Expr} {es : List Expr} {t : LA}
end
def txl (l : List Int) : EV := .tup (l.map EV.int)
def lSortSetT (ta : LT) : LT := fun env h P => ta env h fun v h1 => match v with
  | .ref r => match h1[r]? with
    | some (.lst xs) => ∃ (ns : List (List Int)) (d : Nat) (B : Int), xs = ns.map txl ∧ ns.length < 64 ∧ 1 ≤ d ∧ (∀ l ∈ ns, l.length = d ∧ TS.Bd B l) ∧
        ∀ us : List (List Int), us.Nodup → (∀ l, l ∈ us ↔ l ∈ ns) → us.Pairwise (fun q r => TS.code B q ≤ TS.code B r) → P (.ref h1.length) (h1 ++ [.lst (us.map txl)])
    | _ => False
  | _ => False
def tSortSetT (K : PySem.W.Frag) (ta : TE) : TE := fun σ H Q => ta σ H fun x H1 => ∃ (l : Addr) (ks : List (Addr × List Int)) (d : Nat) (B : Int), x = .ref l ∧ SqL K H1 l (ks.map fun p => V.ref p.1) ∧ (∀ p ∈ ks, SqT K H1 p.1 (p.2.map V.int)) ∧ ks.length < 64 ∧ 1 ≤ d ∧ (∀ p ∈ ks, p.2.length = d ∧ TS.Bd B p.2) ∧
  ∀ (L : List (Addr × List Int)) (a p : Addr) (o : HO), (∀ q ∈ L, q ∈ ks) → (∀ q ∈ ks, q.2 ∈ L.map (·.2)) → (L.map (·.2)).Nodup → L.Pairwise (fun q r => TS.code B q.2 ≤ TS.code B r.2) → H1 a = none → upd H1 a o p = none →
    Q (.ref p) (upd (upd H1 a o) p (.lst (L.map fun q => V.ref q.1)))
theorem pe_sortSetT {X : Cx} {a : Expr} {ta : TE} {p p2 q pos : Pos} (hg : Gl X "sorted") (hm : X.mg "sorted" = none) (hg2 : Gl X "set") (hm2 : X.mg "set" = none) (ha : PE X a ta) (hu : X.A.units + 64 < cLine) (hc : X.calm = true := by rfl)
    (na : starEach [a] X.env = (false, eval a X.env) :: starEach [] X.env := by rfl) : PE X (.Call (.Name "sorted" p) [.Call (.Name "set" p2) [a] [] q] [] pos) (tSortSetT X.K ta) := by
  refine ⟨fun pins s σ H Q I h => ?_⟩
  refine Call_ (ld_blt I hg hm boot_sorted ?_)
  refine PyProof.Rows.callWith_builtin1 (PyProof.Rows.args_cons ?_ rfl) rfl rfl
  refine Call_ (ld_blt I hg2 hm2 boot_set ?_)
  refine PyProof.Rows.callWith_type1 (PyProof.Rows.args_cons (thn (ha.run pins s σ H _ I h) fun v s1 ⟨x, H1, I1, r1, q1⟩ => PyProof.Rows.args_nil ?_) na) na rfl
  obtain ⟨l, ks, d, B, rfl, hl, hk, hf, hd, hB, q1⟩ := q1
  refine thn (cr_setOfT hc hu pins s1 σ H1 [V.ref l] [v] (fun y H2 => ∃ a L, y = .ref a ∧ H1 a = none ∧ (∀ p ∈ L, p ∈ ks) ∧ (∀ p ∈ ks, p.2 ∈ L.map (·.2)) ∧ H2 = upd H1 a (SetTO X.prog X.w a L)) I1 (.cons r1 .nil) ⟨l, ks, rfl, hl, hk, hf, fun a L fa h1 h2 => ⟨a, L, rfl, fa, h1, h2, rfl⟩⟩) fun v2 s2 ⟨y, H2, I2, r2, q2⟩ => PyProof.Rows.args_nil ?_
  obtain ⟨a2, L, rfl, fa, h1, h2, rfl⟩ := q2
  refine cr_sortedT hc pins s2 σ _ [.ref a2] [v2] Q I2 (.cons r2 .nil) ⟨a2, L, d, B, rfl, upd_same, fun p hp => sqT_upd (hk p (h1 p hp)) (fun u e => by rw [fa] at e; cases e), hd, fun p hp => hB p (h1 p hp), fun L' p pm nd _ pw hp => ?_⟩
  refine q1 L' a2 p _ (fun q hq => h1 q (pm.mem_iff.mp hq)) (fun q hq => ?_) nd pw fa hp
  exact ((pm.map (·.2)).mem_iff).mpr (h2 q hq)
theorem rel_txls {K : PySem.W.Frag} {m : Nat → Addr} {n : Nat} {H : Hp} : ∀ {ns : List (List Int)} {vs : List V}, aG K m n H (ns.map txl) vs → ∃ ks : List (Addr × List Int), vs = ks.map (fun p => V.ref p.1) ∧ ks.map (·.2) = ns ∧ ∀ p ∈ ks, H p.1 = some (.tup (p.2.map V.int))
  | [], vs, r => ⟨[], by cases r; rfl, rfl, fun _ h => (by cases h)⟩
  | l :: ns, vs, r => by
    obtain ⟨v, vs, rfl, r0, r⟩ := r
    have r0 : az K m n H (.tup (l.map EV.int)) v := r0
    rw [az] at r0
    obtain ⟨a, us, rfl, hs, r0⟩ := r0
    have := r0.ints
    subst this
    obtain ⟨ks, rfl, rfl, hk⟩ := rel_txls r
    refine ⟨(a, l) :: ks, rfl, rfl, fun p hp => ?_⟩
    rcases List.mem_cons.mp hp with rfl | hp
    · exact hs
    · exact hk p hp
theorem txls_rel {K : PySem.W.Frag} {m : Nat → Addr} {n : Nat} {H : Hp} : ∀ {ks : List (Addr × List Int)}, (∀ p ∈ ks, H p.1 = some (.tup (p.2.map V.int))) → aG K m n H ((ks.map (·.2)).map txl) (ks.map fun p => V.ref p.1)
  | [], _ => rfl
  | p :: ks, hk => by
    refine ⟨V.ref p.1, ks.map fun p => V.ref p.1, rfl, ?_, txls_rel fun q hq => hk q (List.mem_cons_of_mem _ hq)⟩
    show az K m n H (.tup (p.2.map EV.int)) _
    rw [az]
    exact ⟨p.1, _, rfl, hk p List.mem_cons_self, rel_ints _⟩
theorem le_sortSetT {X : Cx} {a : Expr} {ta : LT} {p p2 q pos : Pos} (hg : Gl X "sorted") (hm : X.mg "sorted" = none) (hg2 : Gl X "set") (hm2 : X.mg "set" = none) (ha : LE X a ta) (hu : X.A.units + 64 < cLine) (hc : X.calm = true := by rfl)
    (na : starEach [a] X.env = (false, eval a X.env) :: starEach [] X.env := by rfl) : LE X (.Call (.Name "sorted" p) [.Call (.Name "set" p2) [a] [] q] [] pos) (lSortSetT ta) := by
  refine ⟨PE.imp (pe_sortSetT hg hm hg2 hm2 ha.pe hu hc na) fun σ H Q ⟨m, env, h, P, at_, t1, k⟩ => ⟨m, env, h, _, at_, t1, fun v h1 p1 m1 H1 x E1 R1 r1 => ?_⟩⟩
  split at p1
  · rw [az] at r1
    obtain ⟨_, rfl⟩ := r1
    split at p1
    · rename_i r xs e
      obtain ⟨ns, d, B, rfl, hf, hd, hB, p1⟩ := p1
      obtain ⟨vs, a1, rl⟩ := R1.obj _ _ e
      obtain ⟨ks, rfl, rfl, hk⟩ := rel_txls rl
      refine ⟨_, ks, d, B, rfl, SqL.of a1, fun p hp => SqT.of (hk p hp), by rw [List.length_map] at hf; exact hf, hd, fun p hp => hB p.2 (List.mem_map_of_mem hp), fun L a2 p o g1 g2 nd pw fa fp => ?_⟩
      have k1 : Kon X.K m1 h1.length H1 P Q := k.ex E1
      have k2 : Kon X.K m1 h1.length (upd H1 a2 o) P Q := k1.ex (Ex.tup1 fa)
      refine k2.lst (R1.tup fa) (p1 (L.map (·.2)) nd (fun l => ⟨fun hl => ?_, fun hl => ?_⟩) ?_) (txls_rel fun q hq => ?_) fp
      · obtain ⟨q, hq, rfl⟩ := List.mem_map.mp hl
        exact List.mem_map_of_mem (g1 q hq)
      · obtain ⟨q, hq, rfl⟩ := List.mem_map.mp hl
        exact g2 q hq
      · rw [List.pairwise_map]; exact pw
      · have := hk q (g1 q hq)
        rw [upd_ne (fun z => by rw [z, fa] at this; cases this)]
        exact this
    · exact p1.elim
  · exact p1.elim
def downN (i : Int) (n : Nat) : List EV := (List.range n).map fun (k : Nat) => EV.int (i - k)
def lRng3D (ta : LA) : LI := fun env h P => ta env h fun vs h1 => match vs with
  | [.int i, .int j, .int c] => c = -1 ∧ (-(2 ^ 62) ≤ i ∧ i < 2 ^ 62 ∧ -(2 ^ 62) ≤ j ∧ j < 2 ^ 62) ∧ P lTrue (downN i (i - j).toNat) h1
  | _ => False
theorem SimIt.dwnN {K : PySem.W.Frag} {m : Nat → Addr} {n : Nat} {H : Hp} {i : Int} {z : Nat} {g : EH → Prop} : SimIt K m n H (Itc i (-1) z) g (downN i z) := by
  intro k h' m' H' E' R' gh
  unfold downN
  refine ⟨fun x hx => ?_, fun hi => by show z ≤ k; simpa using Nat.le_of_eq hi⟩
  rw [List.getElem?_map] at hx
  obtain ⟨j, hj, rfl⟩ := Option.map_eq_some_iff.mp hx
  obtain ⟨hl, e⟩ := List.getElem?_eq_some_iff.mp hj
  rw [List.length_range] at hl
  rw [List.getElem_range] at e
  subst e
  refine ⟨hl, fun v H2 ⟨e1, e2⟩ => ?_⟩
  subst e1 e2
  exact ⟨.refl, R', by rw [az]; congr 1; omega⟩
theorem lit_range3D {X : Cx} {tg a b c : Expr} {ta : LA} {p pos : Pos} (hg : Gl X "range") (hm : X.mg "range" = none) (ha : LAs X [a, b, c] ta)
    (hs : starEach [a, b, c] X.env = (false, eval a X.env) :: starEach [b, c] X.env := by rfl) (hpl : (backTo pos (starEach [b, c] X.env)).any (·.1) = false := by rfl) : LIt X tg (.Call (.Name "range" p) [a, b, c] [] pos) (lRng3D ta) := by
  refine ⟨PI.imp (pi_range3 hg hm ha.pa hs hpl) fun σ H R ⟨m, env, h, P, at_, t1, k⟩ => ⟨m, env, h, _, at_, t1, fun vs h1 p1 m1 H1 xs E1 R1 r1 => ?_⟩⟩
  split at p1
  · rw [aG] at r1
    obtain ⟨v, l, rfl, a1, r1⟩ := r1
    obtain ⟨v2, v3, rfl, a2, a3⟩ := r1.two_inv
    rw [az] at a1 a2
    rw [az] at a3
    obtain ⟨rfl, ⟨b1, b2, b3, b4⟩, p1⟩ := p1
    subst a1 a2 a3
    exact ⟨_, _, _, _, rfl, RgC.neg b1 b2 b3 b4, k _ _ h1 p1 m1 H1 _ E1 R1 SimIt.dwnN⟩
  · exact p1.elim
theorem iter_intTup {prog : Program} {w : World} {A : Around} {E : Value → Shared → Prop} {s : Shared} {l : Addr} {xs : Array (Int × Tok)} {Q : Value → Shared → Prop} (hl : s.heap.IsTuple l (intItems xs))
    (h : ∀ s₂ : Shared, s₂ = { s with heap := s.heap.push { cls := .type "tuple_iterator", data := .fields #[.ref l, .int 0 0] } } →
      (s₂.heap.IsTupleIter s.heap.objs.size l 0 ∧ s₂.heap.IsTuple l (intItems xs)) → (∀ b ∈ [s.heap.objs.size, l], b < s₂.heap.objs.size) → l ≠ s.heap.objs.size → Q (.ref s.heap.objs.size) s₂) :
    wpAny (model prog w) A (pyIter (.ref l)) Q E s := by
  have hlt : l < s.heap.objs.size := by obtain ⟨_, e, _⟩ := hl; exact Heap.lt_size e
  refine wpAny_pyIter_tuple hl (h _ rfl ⟨⟨_, Heap.get?_push_size _ rfl, rfl, rfl⟩, hl.push _⟩ (fun b hb => ?_) (Nat.ne_of_lt hlt))
  show b < (s.heap.push _).objs.size
  rw [Heap.size_push]
  rcases List.mem_cons.mp hb with rfl | hb
  · exact Nat.lt_succ_self _
  · rcases List.mem_cons.mp hb with rfl | hb
    · exact Nat.lt_succ_of_lt hlt
    · cases hb
theorem old_keptT {s : Shared} {l : Addr} {h' : Heap} (hk : ∀ b o, b ∉ [s.heap.objs.size] → (s.heap.push { cls := .type "tuple_iterator", data := .fields #[.ref l, .int 0 0] }).get? b = some o → h'.get? b = some o) :
    ∀ b o, s.heap.get? b = some o → h'.get? b = some o := fun b o e => by
  refine hk b o (fun hm => ?_) (Heap.get?_push_of_some _ e)
  rcases List.mem_cons.mp hm with e1 | hm
  · exact absurd (e1 ▸ Heap.lt_size e) (Nat.lt_irrefl _)
  · cases hm
theorem max_intTup {prog : Program} {w : World} {A : Around} {E : Value → Shared → Prop} {s : Shared} {l : Addr} {xs : Array (Int × Tok)} {Q : Value → Shared → Prop} (hh : A.handled = none) (hl : s.heap.IsTuple l (intItems xs)) (hne : 0 < xs.size)
    (h : ∀ v h' tk, (intItems xs)[argBest (fun i j => decide (numAt xs i > numAt xs j)) (xs.size - 1)]? = some v → (∀ b o, s.heap.get? b = some o → h'.get? b = some o) → Q v { s with heap := h', toks := tk }) :
    wpAny (model prog w) A (call (.builtin "max") [.ref l]) Q E s := by
  refine call_max_walk (iter_intTup hl fun s₂ e st hfp hlI => ?_)
  subst e
  refine ⟨_, _, _, _, _, _, _, rfl, Walks.tuple (A := A.in1) hh _ l hlI (intItems xs), st, hfp, by simpa [intItems] using hne, CmpOf.ints_gt (numAt xs) (fun _ _ => intItems_at), fun v h' tk hP hk => ?_⟩
  exact h v h' tk (by simpa [intItems] using hP) (old_keptT hk)
theorem max_rawT {prog : Program} {w : World} {A : Around} {E : Value → Shared → Prop} {s : Shared} {l : Addr} {its : List Value} {ns : List Int} {Q : Value → Shared → Prop} (hh : A.handled = none) (hl : s.heap.IsTuple l its.toArray) (hi : IntsAre its ns) (hne : 0 < ns.length)
    (h : ∀ h' tk M t', (∀ b o, s.heap.get? b = some o → h'.get? b = some o) → M ∈ ns → (∀ a, a ∈ ns → a ≤ M) → Q (.int M t') { s with heap := h', toks := tk }) : wpAny (model prog w) A (call (.builtin "max") [.ref l]) Q E s := by
  obtain ⟨xs, e⟩ := hi.allInts.items
  have hn : numsOf (intItems xs).toList = ns := by rw [← e]; exact hi.numsOf
  rw [nums_intItems] at hn
  subst hn
  rw [e] at hl
  have hsz : 0 < xs.size := by simpa using hne
  refine max_intTup hh hl hsz fun v h' tk hv hk => ?_
  obtain ⟨t, rfl⟩ := intItems_at hv
  obtain ⟨h1, h2⟩ := argBest_gt (numAt xs) (xs.size - 1)
  refine h h' tk _ t hk ?_ fun a ha => ?_
  · rw [numAt_eq]; exact PySem.getD_mem (by rw [List.length_map, Array.length_toList]; omega)
  · obtain ⟨j, hj, rfl⟩ := mem_getD ha
    rw [List.length_map, Array.length_toList] at hj
    rw [← numAt_eq]; exact h2 j (by omega)
def rMaxT (K : PySem.W.Frag) : List V → Hp → VK → Prop := fun vs H Q => ∃ (a : Addr) (ns : List Int), vs = [V.ref a] ∧ SqT K H a (ns.map V.int) ∧ 0 < ns.length ∧ ∀ m, m ∈ ns → (∀ y, y ∈ ns → y ≤ m) → Q (.int m) H
theorem cr_maxT {X : Cx} (hc : X.calm = true) : CallR X (.builtin "max") (rMaxT X.K) := by
  intro pins s σ H vs us Q I r h
  obtain ⟨a, ns, rfl, hs, hne, q⟩ := h
  obtain ⟨its, rv, hl, _⟩ := I.tuple hs
  rw [Vals.ref1 r]
  exact max_rawT (I.ok.hd hc) (show s.heap.IsTuple a its.toArray from hl) rv.ints hne fun h' tk m t' hk h1 h2 => ⟨.int _, H, I.kept hk, ⟨_, rfl⟩, q m h1 h2⟩
def maxTE : LC := fun vs h P => (∃ ns : List Int, vs = [.tup (ns.map EV.int)] ∧ ns ≠ [] ∧ ∀ m, m ∈ ns → (∀ y ∈ ns, y ≤ m) → P (.int m) h) ∨ maxE vs h P
theorem lc_maxT {X : Cx} (hc : X.calm = true) : oh X (.builtin "max") maxTE := by
  obtain ⟨r, h1, h2⟩ := lc_max (X := X) hc
  refine ⟨_, CallR.or (cr_maxT hc) h1, fun m h H vs xs P Q R r0 q k => ?_⟩
  rcases q with ⟨ns, rfl, ne, p⟩ | q
  · obtain ⟨v, rfl, r⟩ := r0.one_inv
    rw [az] at r
    obtain ⟨a, us, rfl, hs, r⟩ := r
    have := r.ints
    subst this
    exact .inl ⟨a, ns, rfl, SqT.of hs, List.length_pos_iff.mpr ne, fun m h1 h2 => k.same R (p m h1 h2) (by rw [az])⟩
  · exact .inr (h2 m h H vs xs P Q R r0 q k)
theorem maxT_2 {i j : Int} {h : EH} {P : EK} (p : P (.int (max i j)) h) : maxTE [.tup [.int i, .int j]] h P := by
  refine .inl ⟨[i, j], rfl, by simp, fun m hm hx => ?_⟩
  have : m = max i j := by
    simp only [List.mem_cons, List.not_mem_nil, or_false] at hm
    have := hx i (by simp)
    have := hx j (by simp)
    omega
  rw [this]; exact p
def inAT (neg : Bool) : LO := fun v w h P => match w with
  | .ref r => match h[r]? with
    | some (.dlt _ _ kvs) => isKeyT v ∧ P (.bl (neg ^^ dHasT kvs v)) h
    | _ => inA neg v w h P
  | _ => inA neg v w h P
section
variable {X : Cx}
theorem inAT_sim {neg : Bool} {m : Nat → Addr} {h : EH} {H : Hp} {v w : EV} {x y : V} {P : EK} {Q : VK} (R : dD X.K m h H) (rx : az X.K m h.length H v x) (ry : az X.K m h.length H w y) (q : inAT neg v w h P) (k : Kon X.K m h.length H P Q) :
    rInDic neg x y H Q ∨ inA neg v w h P := by
  unfold inAT at q
  split at q
  · split at q
    · rename_i e
      rw [az] at ry
      obtain ⟨_, rfl⟩ := ry
      obtain ⟨a, r⟩ := R.obj _ _ e
      obtain ⟨hk, q⟩ := q
      obtain ⟨k', b, ek, rfl, hb⟩ := keyT_of hk rx
      refine .inl ⟨_, _, rfl, .inr ⟨_, _, b, .inr ⟨_, a⟩, rfl, hb, rfl⟩, ?_⟩
      rw [bY.has ek r]
      exact k.same R q (by rw [az])
    · exact .inr q
  · exact .inr q
theorem lo_ninAT (hu : X.A.units + 65 < cLine) : pW X (compareOp .NotIn) (inAT true) := by
  have od : OpR X (compareOp .NotIn) (rInDic true) := by
    intro pins s σ H x y v u Q I rx ry ⟨a, o, ey, g, q⟩
    subst ey
    obtain rfl : u = Value.ref a := ry
    exact d_notIn (by omega) I g rx fun s3 I3 => ⟨.bl (!o.isSome), H, I3, rfl, by simpa using q⟩
  obtain ⟨r, h1, h2⟩ := lo_nin (X := X) hu
  refine ⟨_, OpR.or od h1, fun m h H v w x y P Q R rx ry q k => ?_⟩
  rcases inAT_sim R rx ry q k with q | q
  · exact .inl q
  · exact .inr (h2 m h H v w x y P Q R rx ry q k)
end
end Y
namespace Y
open PySem PySem.Spec PyProof.Rows L2
def top (i : Nat) : Stmt := PySem.Challenge.pw_saidearly_k89_waits_of_two_texts.main.body.getD i (.Pass ⟨0, 0, 0, 0⟩)
abbrev s_moved : Stmt := top 8
abbrev gq : Stmt := top 9
abbrev gD : Stmt := inClass (top 27) 3
abbrev g8 : Stmt := inClass (top 27) 4
abbrev il : Stmt := top 10
abbrev jd : Stmt := top 13
abbrev fZ : Stmt := top 14
abbrev fB : Stmt := top 15
abbrev s_grid : Stmt := top 16
abbrev ig : Stmt := top 19
abbrev iw : Stmt := top 20
abbrev jg : Stmt := top 21
abbrev ir : Stmt := top 25
abbrev du : Stmt := top 26
abbrev cU : Stmt := inClass (top 27) 1
abbrev fD : Stmt := top 29
abbrev iI : Stmt := top 30
abbrev o9 : Stmt := top 31
abbrev jk : Stmt := top 33
abbrev jh : Stmt := top 34
abbrev j7 : Stmt := top 35
abbrev iD : Stmt := top 36
abbrev eO : Stmt := top 37
abbrev gW : Stmt := top 38
abbrev iG : Stmt := top 39
abbrev gG : Stmt := top 40
abbrev gU : Stmt := top 41
abbrev jf : Stmt := top 42
abbrev ie : Stmt := top 43
abbrev je : Stmt := top 44
abbrev ji : Stmt := top 45
abbrev iz : Stmt := top 46
abbrev fG : Stmt := top 47
abbrev d8 : Stmt := top 48
abbrev fH : Stmt := top 49
abbrev gj : Stmt := top 50
abbrev bL : Stmt := top 51
abbrev bO : Stmt := top 52
abbrev s_law : Stmt := top 53
abbrev M_moved : List Str := ["point", "step"]
abbrev M_can_be_done : List Str := ["step", "point", "left", "right", "i", "j"]
abbrev M_Prices_drop : List Str := ["self", "letter"]
abbrev M_Prices_put : List Str := ["self", "letter"]
abbrev M_step_price : List Str := ["step", "point", "left", "right", "prices"]
abbrev M_is_in_lag : List Str := ["point", "promise"]
abbrev M_all_points : List Str := ["left", "right", "i", "j"]
abbrev qX : List Str := ["left", "right", "prices", "promise", "point", "some", "step", "later"]
abbrev M_grid : List Str := ["left", "right", "prices", "promise", "rows", "point", "here", "step", "i", "j", "cost"]
abbrev M_is_integer : List Str := ["thing"]
abbrev M_is_between : List Str := ["thing", "low", "high"]
abbrev M_is_letter : List Str := ["thing"]
abbrev M_are_costs : List Str := ["thing", "one"]
abbrev oM : List Str := ["thing", "letter", "costs"]
abbrev nR : List Str := ["self", "table", "letter"]
abbrev qW : List Str := ["many", "lag", "low", "i", "j"]
abbrev M_served_by : List Str := ["point", "rows", "left", "right", "pair", "lag", "found", "i", "j", "ways", "k", "m", "cost"]
abbrev M_waits : List Str := ["left", "right", "pair", "lag", "size", "rows", "found", "born", "point", "served", "many", "letter", "one"]
abbrev M__law_bag : List Str := ["_law_script", "_law_cell"]
abbrev M__law_take : List Str := ["_law_bag_here", "_law_many", "_law_cell", "_law_mixed_here", "_law_drawn", "_law_early", "_law_second"]
abbrev M__law_one : List Str := ["_law_bag_here", "_law_some"]
abbrev M__law_mixed : List Str := ["_law_bag_here", "_law_things", "_law_found", "_law_thing"]
abbrev M__law_alphabet : List Str := ["_law_bag_here"]
abbrev M__law_text : List Str := ["_law_bag_here", "_law_letters", "_law_most", "_law_k"]
abbrev M__law_full : List Str := ["_law_bag_here", "_law_letters", "_law_size", "_law_k"]
abbrev M__law_edited : List Str := ["_law_bag_here", "_law_text_here", "_law_letters", "_law_most", "_law_found", "_law_letter", "_law_way"]
abbrev M__law_texts : List Str := ["_law_bag_here", "_law_letters", "_law_most", "_law_way", "_law_ring", "_law_base"]
abbrev M__law_pair : List Str := ["_law_bag_here"]
abbrev M__law_alike : List Str := ["_law_found", "_law_due"]
abbrev M__law_even : List Str := ["_law_bag_here", "_law_letters", "_law_most", "_law_left", "_law_right", "_law_size"]
abbrev M__law_into : List Str := ["_law_left", "_law_right", "_law_pair_here", "_law_i", "_law_j", "_law_found"]
abbrev M__law_band : List Str := ["_law_left", "_law_right", "_law_pair_here", "_law_lag", "_law_found", "_law_i", "_law_j", "_law_some", "_law_prev", "_law_price"]
abbrev qG : List Str := ["_law_t", "_law_lag", "_law_low", "_law_i", "_law_k"]
abbrev rJ : List Str := ["_law_band_here", "_law_left", "_law_right", "_law_pair_here", "_law_spot", "_law_since", "_law_found", "_law_front", "_law_turn", "_law_later", "_law_here", "_law_prev", "_law_price"]
abbrev M__law_traces : List Str := ["_law_left", "_law_right", "_law_pair_here", "_law_lag", "_law_since", "_law_band_here", "_law_spot"]
abbrev pQ : List Str := ["_law_left", "_law_right", "_law_pair_here", "_law_lag", "_law_traces_here", "_law_fixed", "_law_spot", "_law_trace"]
abbrev jn : List Str := ["_law_left", "_law_right", "_law_pair_here", "_law_lag", "_law_due", "_law_again", "_law_found", "_law_t"]
abbrev iy : List Str := ["_law_bag_here", "_law_letters", "_law_pair_here", "_law_lag", "_law_ring", "_law_left", "_law_right", "_law_found", "_law_ticks", "_law_due", "_law_t"]
abbrev M_law : List Str := ["_law_script", "_law_bag_here", "_law_turn", "_law_letters", "_law_pair_here", "_law_lag", "_law_left", "_law_right", "_law_cut", "_law_whole"]
def dD_moved : He.DefD := ⟨("moved", none), "moved", "moved", defArgs s_moved, defBody s_moved, defScope s_moved, [], []⟩
def dD_can_be_done : He.DefD := ⟨("can_be_done", none), "can_be_done", "can_be_done", defArgs gq, defBody gq, defScope gq, [], []⟩
def dD_Prices_drop : He.DefD := ⟨("Prices", some "drop"), "drop", "Prices.drop", defArgs gD, defBody gD, defScope gD, [], []⟩
def dD_Prices_put : He.DefD := ⟨("Prices", some "put"), "put", "Prices.put", defArgs g8, defBody g8, defScope g8, [], []⟩
def dD_step_price : He.DefD := ⟨("step_price", none), "step_price", "step_price", defArgs il, defBody il, defScope il, [], []⟩
def dD_is_in_lag : He.DefD := ⟨("is_in_lag", none), "is_in_lag", "is_in_lag", defArgs jd, defBody jd, defScope jd, [], []⟩
def dD_all_points : He.DefD := ⟨("all_points", none), "all_points", "all_points", defArgs fZ, defBody fZ, defScope fZ, [], []⟩
def dD_steps_from : He.DefD := ⟨("steps_from", none), "steps_from", "steps_from", defArgs fB, defBody fB, defScope fB, [], []⟩
def dD_grid : He.DefD := ⟨("grid", none), "grid", "grid", defArgs s_grid, defBody s_grid, defScope s_grid, [], []⟩
def dD_is_integer : He.DefD := ⟨("is_integer", none), "is_integer", "is_integer", defArgs ig, defBody ig, defScope ig, [], []⟩
def dD_is_between : He.DefD := ⟨("is_between", none), "is_between", "is_between", defArgs iw, defBody iw, defScope iw, [], []⟩
def dD_is_letter : He.DefD := ⟨("is_letter", none), "is_letter", "is_letter", defArgs jg, defBody jg, defScope jg, [], []⟩
def dD_are_costs : He.DefD := ⟨("are_costs", none), "are_costs", "are_costs", defArgs ir, defBody ir, defScope ir, [], []⟩
def dD_is_price_table : He.DefD := ⟨("is_price_table", none), "is_price_table", "is_price_table", defArgs du, defBody du, defScope du, [], []⟩
def rC : He.DefD := ⟨("Prices", some "__init__"), "__init__", "Prices.__init__", defArgs cU, defBody cU, defScope cU, [], []⟩
def dD_rim_points : He.DefD := ⟨("rim_points", none), "rim_points", "rim_points", defArgs fD, defBody fD, defScope fD, [], []⟩
def dD_served_by : He.DefD := ⟨("served_by", none), "served_by", "served_by", defArgs iI, defBody iI, defScope iI, [], []⟩
def dD_waits : He.DefD := ⟨("waits", none), "waits", "waits", defArgs o9, defBody o9, defScope o9, [], []⟩
def dD__law_bag : He.DefD := ⟨("_law_bag", none), "_law_bag", "_law_bag", defArgs jk, defBody jk, defScope jk, [], []⟩
def dD__law_take : He.DefD := ⟨("_law_take", none), "_law_take", "_law_take", defArgs jh, defBody jh, defScope jh, [], []⟩
def dD__law_one : He.DefD := ⟨("_law_one", none), "_law_one", "_law_one", defArgs j7, defBody j7, defScope j7, [], []⟩
def dD__law_mixed : He.DefD := ⟨("_law_mixed", none), "_law_mixed", "_law_mixed", defArgs iD, defBody iD, defScope iD, [], []⟩
def dD__law_alphabet : He.DefD := ⟨("_law_alphabet", none), "_law_alphabet", "_law_alphabet", defArgs eO, defBody eO, defScope eO, [], []⟩
def dD__law_text : He.DefD := ⟨("_law_text", none), "_law_text", "_law_text", defArgs gW, defBody gW, defScope gW, [], []⟩
def dD__law_full : He.DefD := ⟨("_law_full", none), "_law_full", "_law_full", defArgs iG, defBody iG, defScope iG, [], []⟩
def dD__law_edited : He.DefD := ⟨("_law_edited", none), "_law_edited", "_law_edited", defArgs gG, defBody gG, defScope gG, [], []⟩
def dD__law_texts : He.DefD := ⟨("_law_texts", none), "_law_texts", "_law_texts", defArgs gU, defBody gU, defScope gU, [], []⟩
def dD__law_pair : He.DefD := ⟨("_law_pair", none), "_law_pair", "_law_pair", defArgs jf, defBody jf, defScope jf, [], []⟩
def dD__law_alike : He.DefD := ⟨("_law_alike", none), "_law_alike", "_law_alike", defArgs ie, defBody ie, defScope ie, [], []⟩
def dD__law_even : He.DefD := ⟨("_law_even", none), "_law_even", "_law_even", defArgs je, defBody je, defScope je, [], []⟩
def dD__law_into : He.DefD := ⟨("_law_into", none), "_law_into", "_law_into", defArgs ji, defBody ji, defScope ji, [], []⟩
def dD__law_band : He.DefD := ⟨("_law_band", none), "_law_band", "_law_band", defArgs iz, defBody iz, defScope iz, [], []⟩
def dD__law_spots : He.DefD := ⟨("_law_spots", none), "_law_spots", "_law_spots", defArgs fG, defBody fG, defScope fG, [], []⟩
def dD__law_through : He.DefD := ⟨("_law_through", none), "_law_through", "_law_through", defArgs d8, defBody d8, defScope d8, [], []⟩
def dD__law_traces : He.DefD := ⟨("_law_traces", none), "_law_traces", "_law_traces", defArgs fH, defBody fH, defScope fH, [], []⟩
def dD__law_wait : He.DefD := ⟨("_law_wait", none), "_law_wait", "_law_wait", defArgs gj, defBody gj, defScope gj, [], []⟩
def mj : He.DefD := ⟨("_law_are_waits_right", none), "_law_are_waits_right", "_law_are_waits_right", defArgs bL, defBody bL, defScope bL, [], []⟩
def oJ : He.DefD := ⟨("_law_is_long_right", none), "_law_is_long_right", "_law_is_long_right", defArgs bO, defBody bO, defScope bO, [], []⟩
def dD_law : He.DefD := ⟨("law", none), "law", "law", defArgs s_law, defBody s_law, defScope s_law, [], []⟩
def fn : List He.DefD := [dD_moved, dD_can_be_done, dD_Prices_drop, dD_Prices_put, dD_step_price, dD_is_in_lag, dD_all_points, dD_steps_from, dD_grid, dD_is_integer, dD_is_between, dD_is_letter, dD_are_costs, dD_is_price_table, rC, dD_rim_points, dD_served_by, dD_waits, dD__law_bag, dD__law_take, dD__law_one, dD__law_mixed, dD__law_alphabet, dD__law_text, dD__law_full, dD__law_edited, dD__law_texts, dD__law_pair, dD__law_alike, dD__law_even, dD__law_into, dD__law_band, dD__law_spots, dD__law_through, dD__law_traces, dD__law_wait, mj, oJ, dD_law]
def fa : List He.Fa := [.glo "moved", .glo "can_be_done", .meth "Prices" "drop", .meth "Prices" "put", .glo "step_price", .glo "is_in_lag", .glo "all_points", .glo "steps_from", .glo "grid", .glo "is_integer", .glo "is_between", .glo "is_letter", .glo "are_costs", .glo "is_price_table", .mkr "Prices", .glo "rim_points", .glo "served_by", .glo "waits", .glo "_law_bag", .glo "_law_take", .glo "_law_one", .glo "_law_mixed", .glo "_law_alphabet", .glo "_law_text", .glo "_law_full", .glo "_law_edited", .glo "_law_texts", .glo "_law_pair", .glo "_law_alike", .glo "_law_even", .glo "_law_into", .glo "_law_band", .glo "_law_spots", .glo "_law_through", .glo "_law_traces", .glo "_law_wait", .glo "_law_are_waits_right", .glo "_law_is_long_right", .glo "law", .glo "Prices", .free "abs", .free "all", .free "any", .free "bool", .free "dict", .free "int", .free "isinstance", .free "len", .free "list", .free "max", .free "min", .free "range", .free "repr", .free "set", .free "sorted", .free "tuple", .str "DROP" "d", .int "GREATEST_LETTER" 1000000000, .int "GREATEST_PRICE" 9, .glo "IN_ORDER", .str "KEEP" "k", .glo "PLAIN", .str "PUT" "p"]
def ts : List He.Tab := []
def exB : PySem.W.Frag → Bool := fun K => sclsB K (He.ga K "Prices") && slotB K (He.ga K "Prices") "its_costs" 0 && isiOkB K (He.ga K "Prices") && tupB K (He.ga K "IN_ORDER") [.str [107], .str [100], .str [112]] && tupB K (He.ga K "PLAIN") [.int 1, .int 1]
abbrev hk : PySem.W.Hook := hookZ 2000 fa fn ts exB
abbrev R : PySem.W.OpenRow := PySem.W.OpenLaw.row PySem.Challenge.rw_saidearly_k89_waits_of_two_texts
def ob (s : PySem.W.SharedT) : He.AlX := obsZ 2000 fa fn ts exB (HandSHeadRun.getT s)
theorem ob_eq (s : PySem.W.SharedT) : ob s = hk.obs s.abs := obsZ_eq (HandSHeadRun.getT_eq s)
def names : List PySem.Str := (["_wall", "EarlyError", "Wrong", "KEEP", "DROP", "PUT", "moved", "can_be_done", "step_price", "IN_ORDER"] : List PySem.Str) ++ (["is_in_lag", "all_points", "steps_from", "grid", "GREATEST_LETTER", "is_integer", "is_between", "is_letter", "PLAIN", "GREATEST_PRICE"] : List PySem.Str) ++ (["are_costs", "is_price_table", "Prices", "rim_points", "served_by", "waits", "_law_bag", "_law_take", "_law_one", "_law_mixed"] : List PySem.Str) ++ (["_law_alphabet", "_law_text", "_law_full", "_law_edited", "_law_texts", "_law_pair", "_law_alike", "_law_even", "_law_into", "_law_band"] : List PySem.Str) ++ (["_law_spots", "_law_through", "_law_traces", "_law_wait", "_law_are_waits_right", "_law_is_long_right"] : List PySem.Str)
open PySem.W PySem.Calls
theorem split3 {α β γ δ : Type} {x : Option α} {f : α → β} {g : α → γ} {k : α → δ} {b : β} {c : γ} {d : δ} (h1 : x.map f = some b) (h2 : x.map g = some c) (h3 : x.map k = some d) : x.map (fun s => (f s, g s, k s)) = some (b, c, d) := by
  cases x with
  | none => cases h1
  | some s =>
    rw [Option.map_some] at h1 h2 h3 ⊢
    rw [Option.some.inj h1, Option.some.inj h2, Option.some.inj h3]
theorem splitOb {x : Option PySem.W.SharedT} {n : Nat} {fa : List He.Fa} {fn : List He.DefD} {ts : List He.Tab} {ex : PySem.W.Frag → Bool} {w : World}
    (ha : x.map (fun s => fa.all fun f => f.ok (He.frT (HandSHeadRun.getT s) (List.range n))) = some true)
    (hb1 : x.map (fun s => (fn.take 33).all fun d => d.ok (He.frT (HandSHeadRun.getT s) (List.range n))) = some true)
    (hb2 : x.map (fun s => ((fn.drop 33).take 33).all fun d => d.ok (He.frT (HandSHeadRun.getT s) (List.range n))) = some true)
    (hb3 : x.map (fun s => ((fn.drop 33).drop 33).all fun d => d.ok (He.frT (HandSHeadRun.getT s) (List.range n))) = some true)
    (hc : x.map (fun s => fn.map fun d => He.fnW (He.frT (HandSHeadRun.getT s) (List.range n)) d.at_) = some (fn.map He.DefD.val))
    (ht : x.map (fun s => (ts.map fun t => He.dicW (He.frT (HandSHeadRun.getT s) (List.range n)) (t.1 (He.frT (HandSHeadRun.getT s) (List.range n))), ex (He.frT (HandSHeadRun.getT s) (List.range n)))) = some ((He.valT fn ts w).2, true)) :
    x.map (fun s => obsZ n fa fn ts ex (HandSHeadRun.getT s)) = some (He.valX fn ts w) := by
  cases x with
  | none => cases ha
  | some s =>
    rw [Option.map_some] at ha hb1 hb2 hb3 hc ht ⊢
    have ha := Option.some.inj ha
    have hb : (fn.all fun d => d.ok (He.frT (HandSHeadRun.getT s) (List.range n))) = true := by
      rw [← List.take_append_drop 33 fn, List.all_append, Option.some.inj hb1, ← List.take_append_drop 33 (fn.drop 33), List.all_append, Option.some.inj hb2, Option.some.inj hb3]
      rfl
    have hc := Option.some.inj hc
    have ht := Option.some.inj ht
    have h1 := congrArg Prod.fst ht
    have h2 := congrArg Prod.snd ht
    simp only at h1 h2
    unfold obsZ He.obsT He.obsD He.valX He.valT He.valD
    rw [ha, hb, hc, h1, h2]
    rfl
theorem run1 (w : World) (os : OsState) : (HandSHeadRun.endF (HandSHeadRun.stepQ (HandSHeadRun.denQ HandSHeadRun.tabQ) R.prog w) 16000 R.prog w os).map (fun s => HandSHeadRun.looksF R.prog (boot_heap w.params) s.abs) = some true := by
  kernel_rfl
theorem run2 (w : World) (os : OsState) : (HandSHeadRun.endF (HandSHeadRun.stepQ (HandSHeadRun.denQ HandSHeadRun.tabQ) R.prog w) 16000 R.prog w os).map (fun s => HandSHeadRun.seenQ (PySem.W.view R.prog [53]) names (importedModules R.prog.main.body) (fun s => xlAt (PySem.W.view R.prog [53]) [] s && recOk R.toRowW.records s) s.abs) = some (openGood (PySem.W.view R.prog [53]) names) := by
  kernel_rfl
theorem run3a (w : World) (os : OsState) : (HandSHeadRun.endF (HandSHeadRun.stepQ (HandSHeadRun.denQ HandSHeadRun.tabQ) R.prog w) 16000 R.prog w os).map (fun s => fa.all fun f => f.ok (He.frT (HandSHeadRun.getT s) (List.range 2000))) = some true := by
  kernel_rfl
theorem run3b1 (w : World) (os : OsState) : (HandSHeadRun.endF (HandSHeadRun.stepQ (HandSHeadRun.denQ HandSHeadRun.tabQ) R.prog w) 16000 R.prog w os).map (fun s => (fn.take 33).all fun d => d.ok (He.frT (HandSHeadRun.getT s) (List.range 2000))) = some true := by
  kernel_rfl
theorem run3b2 (w : World) (os : OsState) : (HandSHeadRun.endF (HandSHeadRun.stepQ (HandSHeadRun.denQ HandSHeadRun.tabQ) R.prog w) 16000 R.prog w os).map (fun s => ((fn.drop 33).take 33).all fun d => d.ok (He.frT (HandSHeadRun.getT s) (List.range 2000))) = some true := by
  kernel_rfl
theorem run3b3 (w : World) (os : OsState) : (HandSHeadRun.endF (HandSHeadRun.stepQ (HandSHeadRun.denQ HandSHeadRun.tabQ) R.prog w) 16000 R.prog w os).map (fun s => ((fn.drop 33).drop 33).all fun d => d.ok (He.frT (HandSHeadRun.getT s) (List.range 2000))) = some true := by
  kernel_rfl
theorem run3c (w : World) (os : OsState) : (HandSHeadRun.endF (HandSHeadRun.stepQ (HandSHeadRun.denQ HandSHeadRun.tabQ) R.prog w) 16000 R.prog w os).map (fun s => fn.map fun d => He.fnW (He.frT (HandSHeadRun.getT s) (List.range 2000)) d.at_) = some (fn.map He.DefD.val) := by
  kernel_rfl
theorem run3d (w : World) (os : OsState) : (HandSHeadRun.endF (HandSHeadRun.stepQ (HandSHeadRun.denQ HandSHeadRun.tabQ) R.prog w) 16000 R.prog w os).map (fun s => (ts.map fun t => He.dicW (He.frT (HandSHeadRun.getT s) (List.range 2000)) (t.1 (He.frT (HandSHeadRun.getT s) (List.range 2000))), exB (He.frT (HandSHeadRun.getT s) (List.range 2000)))) = some ((He.valT fn ts w).2, true) := by
  kernel_rfl
theorem run3 (w : World) (os : OsState) : (HandSHeadRun.endF (HandSHeadRun.stepQ (HandSHeadRun.denQ HandSHeadRun.tabQ) R.prog w) 16000 R.prog w os).map (fun s => ob s) = some (hk.val w) := splitOb (run3a w os) (run3b1 w os) (run3b2 w os) (run3b3 w os) (run3c w os) (run3d w os)
theorem run (w : World) : HandSHeadRun.RunEq R (PySem.W.view R.prog [53]) hk ob 16000 names w := fun os => split3 (run1 w os) (run2 w os) (run3 w os)
end Y
section
open PySem PySem.W PySem.Calls PyProof.Rows
theorem Y.pre_saidearly_k89_waits_of_two_texts (F : ∀ (w : World) (K : PySem.W.Frag) (mg : Str → Option Value) (f' : Addr) (h : Heap), K.In h → He.SaysX Y.fa Y.fn Y.ts [] Y.exB w h K → h.Ns mainGlobals mg → mg ("law" : PySem.Str) = some (.ref f') →
    ∃ fd : FuncData, (∀ (s : Shared) (u : Value), BindsTo s fd ⟨[u], []⟩ [("_law_script", u)]) ∧ ∀ base : Heap, K.In base → base.Ns mainGlobals mg → Y.FnG PySem.Challenge.rw_saidearly_k89_waits_of_two_texts.prog w K mg base 9 f' fd ["_law_script"] (Y.spTop 63)) : PySem.Challenge.rw_saidearly_k89_waits_of_two_texts.Holds := by
  w_on; o_law
  refine HandSHeadRun.head_any (r := OpenLaw.row PySem.Challenge.rw_saidearly_k89_waits_of_two_texts) (q := view (OpenLaw.row PySem.Challenge.rw_saidearly_k89_waits_of_two_texts).prog [53]) (H := Y.hk) (ob := Y.ob) (M := 16000) (loose := Y.names) (d := HandSHeadRun.topDef (OpenLaw.row PySem.Challenge.rw_saidearly_k89_waits_of_two_texts).prog 53) (kwd := []) Y.ob_eq
    (by kernel_rfl) (fun s => by kernel_rfl) Y.run (by kernel_rfl) (by kernel_rfl) (by kernel_rfl) (by rfl) (by first | assumption | decide +kernel) (by decide +kernel) ⟨rfl, rfl, rfl, rfl, rfl, by decide +kernel⟩ ?hw ?hc
  case hw => w_witness2
  case hc =>
    refine Y.walkG (l := PySem.Challenge.rw_saidearly_k89_waits_of_two_texts) (n := 63) (k := 9) (x := "_law_script") rfl (by decide) (by kernel_rfl) ⟨rfl, by decide, by decide⟩ ?F
    intro w mg fa h Y G hmg0
    obtain ⟨K, KX, c⟩ := Y
    have hmg : mg ("law" : PySem.Str) = some (.ref fa) := by
      have e : (HandSHeadRun.topDef (OpenLaw.row PySem.Challenge.rw_saidearly_k89_waits_of_two_texts).prog 53).name = ("law" : PySem.Str) := by kernel_rfl
      rw [← e]
      exact hmg0
    obtain ⟨fd, hb, hF⟩ := F w K mg fa h KX c G hmg
    exact ⟨K, fd, KX, hb, hF⟩
end
namespace Y
open PySem PySem.Spec PyProof.Rows L2
def cX (h : EH) (b : Nat) : Prop := ∃ (c : Nat) (x y z : Int) (ns : List Int), h[b]? = some (.lst [.int x, .int y, .int z, .ref c]) ∧ h[c]? = some (.lst (ns.map EV.int)) ∧ c < b ∧ 0 ≤ x ∧ 0 ≤ y ∧ 0 ≤ z ∧ ns.length ≤ 63 ∧ ∀ n ∈ ns, 0 ≤ n
def is1 (b : Nat) : Nat → Prop := fun r => r = b
def spBag : LSp := fun evs h Q => ∃ ns : List Int, evs = [.ref 0] ∧ h = [.frz (ns.map EV.int)] ∧ ns.length ≤ 63 ∧ ∀ b h', cX h' b → Q (.ref b) h'
def spTake : LSp := fun evs h Q => ∃ (b : Nat) (many : Int), evs = [.ref b, .int many] ∧ 0 < many ∧ many < 2 ^ 60 ∧ cX h b ∧ ∀ d h', 0 ≤ d → d < many → aH (is1 b) h h' → cX h' b → Q (.int d) h'
def spOne : LSp := fun evs h Q => ∃ (b l : Nat) (xs : List EV), evs = [.ref b, .ref l] ∧ h[l]? = some (.lst xs) ∧ xs ≠ [] ∧ xs.length ≤ sizeLine ∧ l ≠ b ∧ cX h b ∧ ∀ x h', x ∈ xs → aH (is1 b) h h' → cX h' b → Q x h'
def spMixed : LSp := fun evs h Q => ∃ (b l : Nat) (xs : List EV), evs = [.ref b, .ref l] ∧ h[l]? = some (.lst xs) ∧ xs.length ≤ 1000000 ∧ l ≠ b ∧ cX h b ∧ ∀ r ys h', ys.Perm xs → aH (is1 b) h h' → h.length ≤ r → h'[r]? = some (.lst ys) → cX h' b → Q (.ref r) h'
def spAlike : LSp := fun evs h Q => ∃ (v w : EV) (d : PyData), evs = [v, w] ∧ Dat h 60 v d ∧ Dat h 60 w d ∧ d.showable = true ∧ d.shown.length ≤ sizeLine ∧ Q (.bl true) h
def rdBag : LS :=
    aW (bR (aa (lC (.int 0)) (aa (lC (.int 1234567891)) (aa (lC (.int 0)) (aa (lLc (lIt (lSl (ao 0) (aJ none) (aJ (some (lC (.int 63)))))) (.nm 1) (cY) (lCB absE (aa (ao 1) (aq))) [1]) (aq))))))
def rdTake : LS :=
    aD (bB (lB (lOp (eqE false) (lOp ixA (ao 0) (lC (.int 0))) (lC (.int 0))))
      (aD (aU (lOp ixA (lOp bJ (lSl (lOp ixA (ao 0) (lC (.int 3))) (aJ (some (lOp ixA (ao 0) (lC (.int 2))))) (aJ none)) (bR (aa (lC (.int 0)) (aq)))) (lC (.int 0))) 2) <|
    aD (cG (fun i j => i + j) (ao 0) (lC (.int 2)) (lC (.int 1))) <|
    aD (bu (ao 0) (lC (.int 0)) (lOp oG (ao 2) (lCB intOf (aa (lOp geE (ao 2) (lOp powE (lC (.int 10)) (lC (.int 18)))) (aq))))) <|
    aD (aU (lOp bJ (lOp bJ (lOp oG (lOp ixA (ao 0) (lC (.int 1))) (lC (.int 48271))) (lOp modE (lCB intOf (aa (ao 2) (aq))) (lC (.int 2147483647)))) (lOp oG (lC (.int 7919)) (lOp ixA (ao 0) (lC (.int 2))))) 3) <|
    bu (ao 0) (lC (.int 1)) (lOp modE (lCB intOf (aa (ao 3) (aq))) (lC (.int 2147483647))))
      (aV)) <|
    aD (bB (lB (lOp gtE (lOp ixA (ao 0) (lC (.int 0))) (lC (.int 0))))
      (aD (aU (lOp modE (lCB intOf (aa (lOp ixA (ao 0) (lC (.int 0))) (aq))) (ao 1)) 4) <|
    aD (bu (ao 0) (lC (.int 0)) (lOp fdivE (lCB intOf (aa (lOp ixA (ao 0) (lC (.int 0))) (aq))) (ao 1))) <|
    aW (ao 4))
      (aV)) <|
    aD (aU (lOp modE (lCB intOf (aa (lOp oG (lOp bJ (lOp ixA (ao 0) (lC (.int 1))) (lC (.int 1))) (lC (.int 39373))) (aq))) (lC (.int 1000000007))) 5) <|
    aD (aU (lOp modE (lCB intOf (aa (lOp oG (lOp modE (lCB intOf (aa (lOp oG (ao 5) (ao 5)) (aq))) (lC (.int 998244353))) (lC (.int 30011))) (aq))) (lC (.int 998244353))) 6) <|
    aW (lOp modE (lCB intOf (aa (lOp fdivE (ao 6) (lC (.int 7))) (aq))) (ao 1))
def rdOne : LS :=
    aW (lOp ixA (ao 1) (aA spTake (aa (ao 0) (aa (lCB eG (aa (ao 1) (aq))) (aq)))))
def rdMixed : LS :=
    aD (aU (bR (aq)) 2) <|
    aD (bW (lIt (ao 1)) (.nm 3)
      (bh (lBM "list" insertE (ao 2) (aa (aA spTake (aa (ao 0) (aa (lOp bJ (lCB eG (aa (ao 2) (aq))) (lC (.int 1))) (aq)))) (aa (ao 3) (aq)))))) <|
    aW (ao 2)
def rdAlike : LS :=
    aW (bV (lOp (eqE false) (ao 0) (ao 1)) (lOp (eqE false) (lCB reprE (aa (ao 0) (aq))) (lCB reprE (aa (ao 1) (aq)))))
theorem pureBag (evs : List EV) (h : EH) (Q : EK) (q : spBag evs h Q) : rdBag (aM Q) (bF ["_law_script", "_law_cell"] evs) h := by
  obtain ⟨ns, rfl, rfl, hl, q⟩ := q
  show rdBag (aM Q) [some (.ref 0), none] [.frz (ns.map EV.int)]
  simp only [rdBag, aD, aU, aW, cQ, bh, bB, lOp, ao, lC, lB, lT, cV, lOr, dB, lIf, bV, fK, cO, aq, aa, aY, bR, lCB, lBM, lSl, aJ, aV, bW, lIt, bx, bD, di, fQ, cR, bu, cG, lLc, fV, fL, aA, bA, gZ, gS, sZ, sS, iZ, aZ, cZ, dG, slE]
  have ec : cut (ns.map EV.int) none (some 63) = ns.map EV.int := by
    rw [show (63 : Int) = ((63 : Nat) : Int) from rfl, rN, List.take_of_length_le (by simpa using hl)]
  rw [ec]
  simp only [List.length_cons, List.length_nil, List.getElem?_append_right, Nat.le_refl, Nat.sub_self, gZ, Nat.zero_add]
  refine lc_map (fun v => match v with
    | .int i => EV.int (i.natAbs : Int)
    | _ => .non) _ ?_ (fun acc => by simp) (fun x hx acc ky hy => ?_) ?_
  · rw [List.length_map, bG]; omega
  · obtain ⟨c, hc, rfl⟩ := List.mem_map.mp hx
    simp only [cH, Pat.bind, aD, aU, aW, cQ, bh, bB, lOp, ao, lC, lB, lT, cV, lOr, dB, lIf, bV, fK, cO, aq, aa, aY, bR, lCB, lBM, lSl, aJ, aV, bW, lIt, bx, bD, di, fQ, cR, bu, cG, lLc, fV, fL, aA, bA, gZ, gS, sZ, sS, iZ, aZ, cZ, dG, absE]
    exact hy
  · rw [bG]
    refine ⟨by decide, ?_⟩
    refine q _ _ ⟨2, 0, 1234567891, 0, ns.map fun i => (i.natAbs : Int), ?_, ?_, ?_, by decide, by decide, by decide, ?_, ?_⟩
    · simp
    · simp
    · simp
    · simpa using hl
    · intro n hn
      obtain ⟨i, _, rfl⟩ := List.mem_map.mp hn
      omega
theorem lenBag (evs : List EV) (h : EH) (Q : EK) (q : spBag evs h Q) : evs.length = ["_law_script"].length := by
  obtain ⟨_, rfl, _⟩ := q; rfl
theorem take_end {b : Nat} {many : Int} {x y z : Int} {c : Nat} {ns : List Int} {Q : EK} {h h0 : EH} (hm : 0 < many) (hm2 : many < 2 ^ 60) (k0 : aH (is1 b) h0 h)
    (e1 : h[b]? = some (.lst [.int x, .int y, .int z, .ref c])) (e2 : h[c]? = some (.lst (ns.map EV.int))) (hcb : c < b) (hx : 0 ≤ x) (hy : 0 ≤ y) (hz : 0 ≤ z) (hnl : ns.length ≤ 63) (hn : ∀ n ∈ ns, 0 ≤ n)
    (q : ∀ d h', 0 ≤ d → d < many → aH (is1 b) h0 h' → cX h' b → Q (.int d) h') {env : En} (he : env.length = 7) (h0 : env[0]? = some (some (.ref b))) (h1 : env[1]? = some (some (.int many))) :
    (aD (bB (lB (lOp gtE (lOp ixA (ao 0) (lC (.int 0))) (lC (.int 0))))
      (aD (aU (lOp modE (lCB intOf (aa (lOp ixA (ao 0) (lC (.int 0))) (aq))) (ao 1)) 4) <|
    aD (bu (ao 0) (lC (.int 0)) (lOp fdivE (lCB intOf (aa (lOp ixA (ao 0) (lC (.int 0))) (aq))) (ao 1))) <|
    aW (ao 4))
      (aV)) <|
    aD (aU (lOp modE (lCB intOf (aa (lOp oG (lOp bJ (lOp ixA (ao 0) (lC (.int 1))) (lC (.int 1))) (lC (.int 39373))) (aq))) (lC (.int 1000000007))) 5) <|
    aD (aU (lOp modE (lCB intOf (aa (lOp oG (lOp modE (lCB intOf (aa (lOp oG (ao 5) (ao 5)) (aq))) (lC (.int 998244353))) (lC (.int 30011))) (aq))) (lC (.int 998244353))) 6) <|
    aW (lOp modE (lCB intOf (aa (lOp fdivE (ao 6) (lC (.int 7))) (aq))) (ao 1))) (aM Q) env h := by
  obtain ⟨g0, g1, g2, g3, g4, g5, g6, rfl⟩ : ∃ a b c d e f g, env = [a, b, c, d, e, f, g] := by
    match env, he with
    | [a, b, c, d, e, f, g], _ => exact ⟨a, b, c, d, e, f, g, rfl⟩
  simp only [gZ, gS, Option.some.injEq] at h0 h1
  subst h0 h1
  simp only [aD, aU, aW, cQ, bh, bB, lOp, ao, lC, lB, lT, cV, lOr, dB, lIf, bV, fK, cO, aq, aa, aY, bR, lCB, lBM, lSl, aJ, aV, bW, lIt, bx, bD, di, fQ, cR, bu, cG, lLc, fV, fL, aA, bA, gZ, gS, sZ, sS, iZ, aZ, cZ, dG]
  refine ia_l e1 at0 ?_
  show if decide (0 < x) = true then _ else _
  split
  · refine ia_l e1 at0 ?_
    refine int_i ?_
    refine mod_i hm ?_
    refine ia_l e1 at0 ?_
    refine int_i ?_
    refine div_i hm (by omega) ?_
    refine sa_l e1 (k := 0) rfl ?_
    refine q _ _ (Int.emod_nonneg _ (by omega)) (Int.emod_lt_of_pos _ hm) (k0.trans (aH.set rfl)) ?_
    exact ⟨c, x / many, y, z, ns, gK e1, dO e2 (Nat.ne_of_lt hcb), hcb, Int.ediv_nonneg hx (by omega), hy, hz, hnl, hn⟩
  · refine ia_l e1 at1 ?_
    refine fU ?_
    refine mul_i (mulOk_r (by decide)) ?_
    refine int_i ?_
    refine mod_i (by decide) ?_
    generalize hE : (y + 1) * 39373 % 1000000007 = E
    have b1 : 0 ≤ E := by rw [← hE]; exact Int.emod_nonneg _ (by decide)
    have b2 : E < 1000000007 := by rw [← hE]; exact Int.emod_lt_of_pos _ (by decide)
    refine mul_i (mulOk_r (by omega)) ?_
    refine int_i ?_
    refine mod_i (by decide) ?_
    refine mul_i (mulOk_r (by decide)) ?_
    refine int_i ?_
    refine mod_i (by decide) ?_
    refine div_i (by decide) (by decide) ?_
    refine int_i ?_
    refine mod_i hm ?_
    exact q _ _ (Int.emod_nonneg _ (by omega)) (Int.emod_lt_of_pos _ hm) k0 ⟨c, x, y, z, ns, e1, e2, hcb, hx, hy, hz, hnl, hn⟩
theorem pureTake (evs : List EV) (h : EH) (Q : EK) (q : spTake evs h Q) : rdTake (aM Q) (bF ["_law_bag_here", "_law_many", "_law_cell", "_law_mixed_here", "_law_drawn", "_law_early", "_law_second"] evs) h := by
  obtain ⟨b, many, rfl, hm, hm2, ⟨c, x, y, z, ns, e1, e2, hcb, hx, hy, hz, hnl, hn⟩, q⟩ := q
  show rdTake (aM Q) [some (.ref b), some (.int many), none, none, none, none, none] h
  unfold rdTake
  rw [aD, bB]
  simp only [lB, lOp, ao, lC, gZ, gS]
  refine ia_l e1 at0 ?_
  refine eq_i ?_
  dsimp only
  split
  · simp only [aD, aU, cG, bu, lOp, ao, lC, lSl, aJ, bR, aa, aq, lCB, gZ, gS, sZ, sS]
    refine ia_l e1 at3 ?_
    refine ia_l e1 at2 ?_
    refine sl_l e2 ?_
    refine ⟨by rw [bG]; decide, ?_⟩
    obtain ⟨zn, rfl⟩ := Int.eq_ofNat_of_zero_le hz
    rw [cut_from]
    have g1 : (h ++ [EO.lst ((ns.map EV.int).drop zn)] ++ [.lst [.int 0]])[h.length]? = some (.lst ((ns.map EV.int).drop zn)) := by simp
    have g2 : (h ++ [EO.lst ((ns.map EV.int).drop zn)] ++ [.lst [.int 0]])[(h ++ [EO.lst ((ns.map EV.int).drop zn)]).length]? = some (.lst [.int 0]) := bf
    refine add_l g1 g2 ?_ ?_
    · simp only [List.length_drop, List.length_map, List.length_singleton]
      rw [bG]; omega
    obtain ⟨v, vs, hv0, hv⟩ : ∃ (v : Int) (vs : List EV), 0 ≤ v ∧ (ns.map EV.int).drop zn ++ [.int 0] = .int v :: vs := by
      cases hd : ns.drop zn with
      | nil => exact ⟨0, [], by decide, by rw [← List.map_drop, hd]; rfl⟩
      | cons n r => exact ⟨n, r.map EV.int ++ [.int 0], hn n (List.mem_of_mem_drop (i := zn) (by rw [hd]; exact List.mem_cons_self)), by rw [← List.map_drop, hd]; rfl⟩
    rw [hv]
    refine ia_l bf at0 ?_
    generalize hg : h ++ [EO.lst ((ns.map EV.int).drop zn)] ++ [.lst [.int 0]] ++ [.lst (.int v :: vs)] = hA
    have kA : aH (is1 b) h hA := by
      rw [← hg, List.append_assoc, List.append_assoc]; exact aH.app _
    have a1 : hA[b]? = some (.lst [.int x, .int y, .int zn, .ref c]) := by
      rw [← hg]; exact dF (dF (dF e1 _) _) _
    have a2 : hA[c]? = some (.lst (ns.map EV.int)) := kA.2 _ _ e2 (Nat.ne_of_lt hcb)
    clear hg g1 g2
    refine get_l a1 (by decide) rfl ?_
    dsimp only
    refine set_l a1 (k := 2) rfl ?_
    simp only [sZ, sS]
    have b1 := gK (o := EO.lst ([.int x, .int y, .int (zn + 1), .ref c] : List EV)) a1
    have b2 := dO (o := EO.lst ([.int x, .int y, .int (zn + 1), .ref c] : List EV)) a2 (Nat.ne_of_lt hcb)
    have kB := kA.trans (aH.set (o := EO.lst ([.int x, .int y, .int (zn + 1), .ref c] : List EV)) (show is1 b b from rfl))
    generalize hA.set b (.lst ([.int x, .int y, .int (zn + 1), .ref c] : List EV)) = hB at b1 b2 kB ⊢
    refine pow_i (by unfold CPow; decide) ?_
    refine ge_i ?_
    refine int_b ?_
    refine mul_i (mulOk_r (by split <;> decide)) ?_
    have hx' : 0 ≤ v * (if decide ((10 : Int) ^ Int.toNat 18 ≤ v) = true then 1 else 0) := by
      split <;> omega
    generalize v * (if decide ((10 : Int) ^ Int.toNat 18 ≤ v) = true then (1 : Int) else 0) = x' at hx' ⊢
    refine sa_l b1 (k := 0) rfl ?_
    simp only [sZ, sS]
    have c1 := gK (o := EO.lst ([.int x', .int y, .int (zn + 1), .ref c] : List EV)) b1
    have c2 := dO (o := EO.lst ([.int x', .int y, .int (zn + 1), .ref c] : List EV)) b2 (Nat.ne_of_lt hcb)
    have kC := kB.trans (aH.set (o := EO.lst ([.int x', .int y, .int (zn + 1), .ref c] : List EV)) (show is1 b b from rfl))
    generalize hB.set b (.lst ([.int x', .int y, .int (zn + 1), .ref c] : List EV)) = hC at c1 c2 kC ⊢
    refine ia_l c1 at1 ?_
    refine mul_i (mulOk_r (by decide)) ?_
    refine int_i ?_
    refine mod_i (by decide) ?_
    refine fU ?_
    refine ia_l c1 at2 ?_
    refine mul_i (mulOk_l (by decide)) ?_
    refine fU ?_
    refine int_i ?_
    refine mod_i (by decide) ?_
    have hy' : 0 ≤ (y * 48271 + v % 2147483647 + 7919 * ((zn : Int) + 1)) % 2147483647 := Int.emod_nonneg _ (by decide)
    generalize (y * 48271 + v % 2147483647 + 7919 * ((zn : Int) + 1)) % 2147483647 = y' at hy' ⊢
    refine sa_l c1 (k := 1) rfl ?_
    simp only [sZ, sS]
    have d1 := gK (o := EO.lst ([.int x', .int y', .int (zn + 1), .ref c] : List EV)) c1
    have d2 := dO (o := EO.lst ([.int x', .int y', .int (zn + 1), .ref c] : List EV)) c2 (Nat.ne_of_lt hcb)
    have kD := kC.trans (aH.set (o := EO.lst ([.int x', .int y', .int (zn + 1), .ref c] : List EV)) (show is1 b b from rfl))
    exact take_end (env := [some (.ref b), some (.int many), some (.int v), some _, none, none, none]) hm hm2 kD d1 d2 hcb hx' hy' (by omega) hnl hn q rfl rfl rfl
  · exact take_end (env := [some (.ref b), some (.int many), none, none, none, none, none]) hm hm2 .refl e1 e2 hcb hx hy hz hnl hn q rfl rfl rfl
theorem lenTake (evs : List EV) (h : EH) (Q : EK) (q : spTake evs h Q) : evs.length = ["_law_bag_here", "_law_many"].length := by
  obtain ⟨_, _, rfl, _⟩ := q; rfl
theorem aH.other {b l : Nat} {h h' : EH} {o : EO} (k : aH (is1 b) h h') (e : h[l]? = some o) (n : l ≠ b) : h'[l]? = some o := k.2 _ _ e n
theorem pureOne (evs : List EV) (h : EH) (Q : EK) (q : spOne evs h Q) : rdOne (aM Q) (bF ["_law_bag_here", "_law_some"] evs) h := by
  obtain ⟨b, l, xs, rfl, e, hne, hl, hlb, B, q⟩ := q
  show rdOne (aM Q) [some (.ref b), some (.ref l)] h
  simp only [rdOne, aD, aU, aW, cQ, bh, bB, lOp, ao, lC, lB, lT, cV, lOr, dB, lIf, bV, fK, cO, aq, aa, aY, bR, lCB, lBM, lSl, aJ, aV, bW, lIt, bx, bD, di, fQ, cR, bu, cG, lLc, fV, fL, aA, bA, gZ, gS, sZ, sS, iZ, aZ, cZ, dG]
  refine len_l e ?_
  have hp : 0 < xs.length := List.length_pos_iff.mpr hne
  refine ⟨b, xs.length, rfl, by omega, by rw [bG] at hl; omega, B, fun d h1 d0 d1 k1 B1 => ?_⟩
  obtain ⟨n, rfl⟩ := Int.eq_ofNat_of_zero_le d0
  have hn : n < xs.length := by omega
  refine ia_l (k1.other e hlb) (L2.atI_nat (List.getElem?_eq_getElem hn)) ?_
  exact q _ _ (List.getElem_mem hn) k1 B1
theorem lenOne (evs : List EV) (h : EH) (Q : EK) (q : spOne evs h Q) : evs.length = ["_law_bag_here", "_law_some"].length := by
  obtain ⟨_, _, _, rfl, _⟩ := q; rfl
theorem cX.keep {h h' : EH} {b : Nat} (B : cX h b) (k : aH no1 h h') : cX h' b := by
  obtain ⟨c, x, y, z, ns, e1, e2, r⟩ := B
  exact ⟨c, x, y, z, ns, k.at e1, k.at e2, r⟩
theorem cX.lt {h : EH} {b : Nat} (B : cX h b) : b < h.length := by
  obtain ⟨c, x, y, z, ns, e1, _⟩ := B
  exact cC e1
theorem cX.set {h : EH} {b r : Nat} {o : EO} (B : cX h b) (n : b < r) : cX (h.set r o) b := by
  obtain ⟨c, x, y, z, ns, e1, e2, l, r'⟩ := B
  exact ⟨c, x, y, z, ns, dO e1 (Nat.ne_of_lt n), dO e2 (Nat.ne_of_lt (Nat.lt_trans l n)), l, r'⟩
theorem pureMixed (evs : List EV) (h : EH) (Q : EK) (q : spMixed evs h Q) : rdMixed (aM Q) (bF ["_law_bag_here", "_law_things", "_law_found", "_law_thing"] evs) h := by
  obtain ⟨b, l, xs, rfl, e, hl, hlb, B, q⟩ := q
  show rdMixed (aM Q) [some (.ref b), some (.ref l), none, none] h
  simp only [rdMixed, aD, aU, aW, cQ, bh, bB, lOp, ao, lC, lB, lT, cV, lOr, dB, lIf, bV, fK, cO, aq, aa, aY, bR, lCB, lBM, lSl, aJ, aV, bW, lIt, bx, bD, di, fQ, cR, bu, cG, lLc, fV, fL, aA, bA, gZ, gS, sZ, sS, iZ, aZ, cZ, dG, List.length_nil]
  refine ⟨by rw [bG]; decide, ?_⟩
  have hlt := cC e
  have hbt := B.lt
  rw [dF e]
  refine pD (fun left env h' => ∃ (done acc : List EV) (x : Option EV), xs = done ++ left ∧ acc.Perm done ∧ env = [some (.ref b), some (.ref l), some (.ref h.length), x] ∧ aH (is1 b) h h' ∧ h'[h.length]? = some (.lst acc) ∧ cX h' b) ?_ ?_ _ _ _ ⟨[], [], none, rfl, .refl _, rfl, aH.app _, bf, B.keep (aH.app _)⟩
  · rintro env h' ⟨done, acc, x, rfl, p, rfl, k, e', B'⟩
    refine ⟨k.other e hlb, ?_⟩
    simp only [aD, aU, aW, cQ, bh, bB, lOp, ao, lC, lB, lT, cV, lOr, dB, lIf, bV, fK, cO, aq, aa, aY, bR, lCB, lBM, lSl, aJ, aV, bW, lIt, bx, bD, di, fQ, cR, bu, cG, lLc, fV, fL, aA, bA, gZ, gS, sZ, sS, iZ, aZ, cZ, dG]
    exact q _ _ _ (by simpa using p) k (Nat.le_refl _) e' B'
  · rintro x left env h' kk ⟨done, acc, x0, rfl, p, rfl, k, e', B'⟩ hk
    refine ⟨k.other e hlb, ?_⟩
    simp only [cH, Pat.bind, aD, aU, aW, cQ, bh, bB, lOp, ao, lC, lB, lT, cV, lOr, dB, lIf, bV, fK, cO, aq, aa, aY, bR, lCB, lBM, lSl, aJ, aV, bW, lIt, bx, bD, di, fQ, cR, bu, cG, lLc, fV, fL, aA, bA, gZ, gS, sZ, sS, iZ, aZ, cZ, dG, isTy, e']
    refine ⟨trivial, ?_⟩
    refine len_l e' ?_
    refine fU ?_
    have hz : acc.length = done.length := p.length_eq
    simp only [List.length_append, List.length_cons] at hl
    refine ⟨b, acc.length + 1, rfl, by omega, by omega, B', fun d h1 d0 d1 k1 B1 => ?_⟩
    have hne : h.length ≠ b := by omega
    have e1 := k1.other e' hne
    refine ins_e e1 (by rw [bG]; omega) d0 (by omega) ?_
    refine hk _ _ ⟨done ++ [x], _, some x, by simp, ?_, rfl, ?_, gK e1, ?_⟩
    · have p1 : (List.take d.toNat acc ++ [x] ++ List.drop d.toNat acc).Perm (x :: acc) := by
        have e3 : List.take d.toNat acc ++ [x] ++ List.drop d.toNat acc = List.take d.toNat acc ++ x :: List.drop d.toNat acc := by simp
        rw [e3]
        exact List.perm_middle.trans (by rw [List.take_append_drop])
      refine p1.trans ((p.cons x).trans ?_)
      exact (List.perm_append_singleton x done).symm
    · exact (k.trans k1).fresh (Nat.le_refl _)
    · exact B1.set hbt
theorem lenMixed (evs : List EV) (h : EH) (Q : EK) (q : spMixed evs h Q) : evs.length = ["_law_bag_here", "_law_things"].length := by
  obtain ⟨_, _, _, rfl, _⟩ := q; rfl
theorem pureAlike (evs : List EV) (h : EH) (Q : EK) (q : spAlike evs h Q) : rdAlike (aM Q) (bF ["_law_found", "_law_due"] evs) h := by
  obtain ⟨v, w, d, rfl, a', b', sd, zd, q⟩ := q
  show rdAlike (aM Q) [some v, some w] h
  simp only [rdAlike, aD, aU, aW, cQ, bh, bB, lOp, ao, lC, lB, lT, cV, lOr, dB, lIf, bV, fK, cO, aq, aa, aY, bR, lCB, lBM, lSl, aJ, aV, bW, lIt, bx, bD, di, fQ, cR, bu, cG, lLc, fV, fL, aA, bA, gZ, gS, sZ, sS, iZ, aZ, cZ, dG]
  refine eqE_same a' b' ?_
  simp only [if_true]
  refine ⟨d, a', sd, zd, ?_⟩
  refine ⟨d, b', sd, zd, ?_⟩
  refine eq_s ?_
  simpa using q
theorem lenAlike (evs : List EV) (h : EH) (Q : EK) (q : spAlike evs h Q) : evs.length = ["_law_found", "_law_due"].length := by
  obtain ⟨_, _, _, rfl, _⟩ := q; rfl
def rdAlpha : LS :=
    aW (lSl (aA spMixed (aa (ao 0) (aa (bR (aa (lC (.int 0)) (aa (lC (.int 1)) (aa (lC (.int 2)) (aa (lC (.int 3)) (aa (lC (.int 48)) (aa (lC (.int 999999999)) (aa (lOp powE (lC (.int 10)) (lC (.int 9))) (aq))))))))) (aq)))) (aJ none) (aJ (some (aA spOne (aa (ao 0) (aa (bR (aa (lC (.int 2)) (aa (lC (.int 3)) (aa (lC (.int 2)) (aa (lC (.int 1)) (aa (lC (.int 4)) (aq))))))) (aq)))))))
def rdText : LS :=
    aW (lCB tupleOf (aa (lLc (bx (aa (aA spTake (aa (ao 0) (aa (lOp bJ (ao 2) (lC (.int 1))) (aq)))) (aq))) (.nm 3) (cY) (aA spOne (aa (ao 0) (aa (ao 1) (aq)))) [3]) (aq)))
def rdFull : LS :=
    aW (lCB tupleOf (aa (lLc (bx (aa (ao 2) (aq))) (.nm 3) (cY) (aA spOne (aa (ao 0) (aa (ao 1) (aq)))) [3]) (aq)))
def spAlpha : LSp := fun evs h Q => ∃ b : Nat, evs = [.ref b] ∧ cX h b ∧ ∀ (r : Nat) (ns : List Int) (h' : EH), ns.Nodup → 0 < ns.length → ns.length ≤ 4 → (∀ n ∈ ns, 0 ≤ n ∧ n ≤ 1000000000) → aH (is1 b) h h' → h.length ≤ r → h'[r]? = some (.lst (ns.map EV.int)) → cX h' b → Q (.ref r) h'
def spFull : LSp := fun evs h Q => ∃ (b l size : Nat) (ns : List Int), evs = [.ref b, .ref l, .int size] ∧ h[l]? = some (.lst (ns.map EV.int)) ∧ ns ≠ [] ∧ ns.length ≤ 1000 ∧ l ≠ b ∧ size ≤ 1000000 ∧ cX h b ∧
  ∀ (ms : List Int) (h' : EH), ms.length = size → (∀ m ∈ ms, m ∈ ns) → aH (is1 b) h h' → cX h' b → Q (.tup (ms.map EV.int)) h'
def spText : LSp := fun evs h Q => ∃ (b l most : Nat) (ns : List Int), evs = [.ref b, .ref l, .int most] ∧ h[l]? = some (.lst (ns.map EV.int)) ∧ ns ≠ [] ∧ ns.length ≤ 1000 ∧ l ≠ b ∧ most ≤ 1000000 ∧ cX h b ∧
  ∀ (ms : List Int) (h' : EH), ms.length ≤ most → (∀ m ∈ ms, m ∈ ns) → aH (is1 b) h h' → cX h' b → Q (.tup (ms.map EV.int)) h'
theorem pureAlpha (evs : List EV) (h : EH) (Q : EK) (q : spAlpha evs h Q) : rdAlpha (aM Q) (bF ["_law_bag_here"] evs) h := by
  obtain ⟨b, rfl, B, q⟩ := q
  show rdAlpha (aM Q) [some (.ref b)] h
  simp only [rdAlpha, aD, aU, aW, cQ, bh, bB, lOp, ao, lC, lB, lT, cV, lOr, dB, lIf, bV, fK, cO, aq, aa, aY, bR, lCB, lBM, lSl, aJ, aV, bW, lIt, bx, bD, di, fQ, cR, bu, cG, lLc, fV, fL, aA, bA, gZ, gS, sZ, sS, aZ, cZ, dG]
  refine ⟨by unfold CPow; decide, by simp [bG], ?_⟩
  have hb := B.lt
  have eM : [EV.int 0, EV.int 1, EV.int 2, EV.int 3, EV.int 48, EV.int 999999999, EV.int (10 ^ Int.toNat 9)] = ([0, 1, 2, 3, 48, 999999999, 1000000000] : List Int).map EV.int := by simp
  rw [eM]
  refine ⟨b, _, _, rfl, bf, by simp, Nat.ne_of_gt hb, B.keep (aH.app _), fun r ys h1 pm k1 g1 e1 B1 => ?_⟩
  refine ⟨by simp [bG], ?_⟩
  refine ⟨b, _, _, rfl, bf, by simp, by simp [bG], Nat.ne_of_gt B1.lt, B1.keep (aH.app _), fun x h2 hx k2 B2 => ?_⟩
  obtain ⟨zs, rfl, pz⟩ : ∃ zs : List Int, ys = zs.map EV.int ∧ zs.Perm [0, 1, 2, 3, 48, 999999999, 1000000000] := by
    have key : ∀ (ys : List EV) (l : List Int), ys.Perm (l.map EV.int) → ∃ zs : List Int, ys = zs.map EV.int ∧ zs.Perm l := by
      intro ys l hp
      have hs : ∀ y ∈ ys, ∃ i, y = EV.int i := fun y hy => by
        obtain ⟨i, _, rfl⟩ := List.mem_map.mp (hp.mem_iff.mp hy)
        exact ⟨i, rfl⟩
      let f : EV → Int := fun v => match v with
        | .int i => i
        | _ => 0
      refine ⟨ys.map f, ?_, ?_⟩
      · rw [List.map_map]
        conv => lhs; rw [← List.map_id ys]
        refine List.map_congr_left fun y hy => ?_
        obtain ⟨i, rfl⟩ := hs y hy
        rfl
      · have := hp.map f
        rw [List.map_map] at this
        rw [show l.map (f ∘ EV.int) = l from by
          conv => rhs; rw [← List.map_id l]
          rfl] at this
        exact this
    exact key _ _ pm
  obtain ⟨m, rfl, m1, m2⟩ : ∃ m : Nat, x = .int m ∧ 0 < m ∧ m ≤ 4 := by
    simp only [List.mem_cons, List.not_mem_nil, or_false] at hx
    rcases hx with rfl | rfl | rfl | rfl | rfl
    · exact ⟨2, rfl, by decide, by decide⟩
    · exact ⟨3, rfl, by decide, by decide⟩
    · exact ⟨2, rfl, by decide, by decide⟩
    · exact ⟨1, rfl, by decide, by decide⟩
    · exact ⟨4, rfl, by decide, by decide⟩
  simp only []
  have g2 : h.length + 1 ≤ r := by simpa using g1
  have e2 := k2.other (dF e1 _) (show r ≠ b by omega)
  refine sl_l e2 ?_
  rw [rN, ← List.map_take]
  have lz : zs.length = 7 := by rw [pz.length_eq]; rfl
  have kk : aH (is1 b) h h2 := ((aH.app _).trans k1).trans ((aH.app _).trans k2)
  refine q _ _ _ ?_ ?_ ?_ (fun n hn => ?_) (kk.trans (aH.app _)) kk.1 bf (B2.keep (aH.app _))
  · exact ((pz.nodup_iff).mpr (by decide)).sublist (List.take_sublist _ _)
  · rw [List.length_take]; omega
  · rw [List.length_take]; omega
  · have := pz.mem_iff.mp (List.mem_of_mem_take hn)
    simp only [List.mem_cons, List.not_mem_nil, or_false] at this
    omega
theorem pureFull (evs : List EV) (h : EH) (Q : EK) (q : spFull evs h Q) : rdFull (aM Q) (bF ["_law_bag_here", "_law_letters", "_law_size", "_law_k"] evs) h := by
  obtain ⟨b, l, size, ns, rfl, e, ne, nl, hlb, hs, B, q⟩ := q
  show rdFull (aM Q) [some (.ref b), some (.ref l), some (.int size), none] h
  simp only [rdFull, aD, aU, aW, cQ, bh, bB, lOp, ao, lC, lB, lT, cV, lOr, dB, lIf, bV, fK, cO, aq, aa, aY, bR, lCB, lBM, lSl, aJ, aV, bW, lIt, bx, bD, di, fQ, cR, bu, cG, lLc, fV, fL, aA, bA, gZ, gS, sZ, sS, aZ, cZ, dG]
  refine ⟨⟨by omega, by omega⟩, ?_⟩
  have hb := B.lt
  have hl := cC e
  refine lc_ind (fun left acc h' => ∃ ms : List Int, acc = ms.map EV.int ∧ (∀ m ∈ ms, m ∈ ns) ∧ ms.length + left.length = size ∧ aH (is1 b) h h' ∧ cX h' b ∧ ∀ v ∈ left, ∃ i : Int, v = .int i) ?_ ?_ _ [] _ bf ⟨[], rfl, fun c hc => by simp at hc, by simp [eZ], aH.app _, B.keep (aH.app _), ?_⟩
  · rintro acc h4 ⟨ms, rfl, hm, hl4, k4, B4, _⟩ e4
    refine ⟨trivial, ?_⟩
    simp only [tupleOf, e4]
    exact q _ _ (by simpa using hl4) hm k4 B4
  · rintro x left acc h4 ky kn ⟨ms, rfl, hm, hl4, k4, B4, hle⟩ e4 hky _
    obtain ⟨xi, rfl⟩ := hle x (by simp)
    refine ⟨trivial, cW ?_⟩
    simp only [cY, aD, aU, aW, cQ, bh, bB, lOp, ao, lC, lB, lT, cV, lOr, dB, lIf, bV, fK, cO, aq, aa, aY, bR, lCB, lBM, lSl, aJ, aV, bW, lIt, bx, bD, di, fQ, cR, bu, cG, lLc, fV, fL, aA, bA, gZ, gS, sZ, sS, aZ, cZ, dG, if_true]
    refine ⟨b, l, _, rfl, k4.other e hlb, by simpa using ne, by rw [List.length_map, bG]; omega, hlb, B4, fun y h5 hy k5 B5 => ?_⟩
    obtain ⟨c, hc, rfl⟩ := List.mem_map.mp hy
    have hbl := B4.lt
    simp only [List.length_cons] at hl4
    refine hky _ _ (k5.other e4 (by omega)) (by rw [List.length_map, bG]; omega) ⟨ms ++ [c], by simp, ?_, by simp; omega, (k4.trans k5).fresh (Nat.le_refl _), B5.set hb, fun v hv => hle v (List.mem_cons_of_mem _ hv)⟩
    intro z hz
    rcases List.mem_append.mp hz with z1 | z1
    · exact hm z z1
    · rw [List.mem_singleton.mp z1]; exact hc
  · intro v hv
    unfold eZ at hv
    obtain ⟨i, _, rfl⟩ := List.mem_map.mp hv
    exact ⟨_, rfl⟩
theorem pureText (evs : List EV) (h : EH) (Q : EK) (q : spText evs h Q) : rdText (aM Q) (bF ["_law_bag_here", "_law_letters", "_law_most", "_law_k"] evs) h := by
  obtain ⟨b, l, most, ns, rfl, e, ne, nl, hlb, hs, B, q⟩ := q
  show rdText (aM Q) [some (.ref b), some (.ref l), some (.int most), none] h
  simp only [rdText, aD, aU, aW, cQ, bh, bB, lOp, ao, lC, lB, lT, cV, lOr, dB, lIf, bV, fK, cO, aq, aa, aY, bR, lCB, lBM, lSl, aJ, aV, bW, lIt, bx, bD, di, fQ, cR, bu, cG, lLc, fV, fL, aA, bA, gZ, gS, sZ, sS, aZ, cZ, dG]
  refine fU ?_
  refine ⟨b, most + 1, rfl, by omega, by omega, B, fun d h1 d0 d1 k1 B1 => ?_⟩
  obtain ⟨size, rfl⟩ := Int.eq_ofNat_of_zero_le d0
  have e := k1.other e hlb
  simp only []
  refine ⟨⟨by omega, by omega⟩, ?_⟩
  have hb := B1.lt
  have hl := cC e
  refine lc_ind (fun left acc h' => ∃ ms : List Int, acc = ms.map EV.int ∧ (∀ m ∈ ms, m ∈ ns) ∧ ms.length + left.length = size ∧ aH (is1 b) h1 h' ∧ cX h' b ∧ ∀ v ∈ left, ∃ i : Int, v = .int i) ?_ ?_ _ [] _ bf ⟨[], rfl, fun c hc => by simp at hc, by simp [eZ], aH.app _, B1.keep (aH.app _), ?_⟩
  · rintro acc h4 ⟨ms, rfl, hm, hl4, k4, B4, _⟩ e4
    refine ⟨trivial, ?_⟩
    simp only [tupleOf, e4]
    simp only [List.length_nil, Nat.add_zero] at hl4
    exact q _ _ (by omega) hm (k1.trans k4) B4
  · rintro x left acc h4 ky kn ⟨ms, rfl, hm, hl4, k4, B4, hle⟩ e4 hky _
    obtain ⟨xi, rfl⟩ := hle x (by simp)
    refine ⟨trivial, cW ?_⟩
    simp only [cY, aD, aU, aW, cQ, bh, bB, lOp, ao, lC, lB, lT, cV, lOr, dB, lIf, bV, fK, cO, aq, aa, aY, bR, lCB, lBM, lSl, aJ, aV, bW, lIt, bx, bD, di, fQ, cR, bu, cG, lLc, fV, fL, aA, bA, gZ, gS, sZ, sS, aZ, cZ, dG, if_true]
    refine ⟨b, l, _, rfl, k4.other e hlb, by simpa using ne, by rw [List.length_map, bG]; omega, hlb, B4, fun y h5 hy k5 B5 => ?_⟩
    obtain ⟨c, hc, rfl⟩ := List.mem_map.mp hy
    have hbl := B4.lt
    simp only [List.length_cons] at hl4
    refine hky _ _ (k5.other e4 (by omega)) (by rw [List.length_map, bG]; omega) ⟨ms ++ [c], by simp, ?_, by simp; omega, (k4.trans k5).fresh (Nat.le_refl _), B5.set hb, fun v hv => hle v (List.mem_cons_of_mem _ hv)⟩
    intro z hz
    rcases List.mem_append.mp hz with z1 | z1
    · exact hm z z1
    · rw [List.mem_singleton.mp z1]; exact hc
  · intro v hv
    unfold eZ at hv
    obtain ⟨i, _, rfl⟩ := List.mem_map.mp hv
    exact ⟨_, rfl⟩
structure Ad where
  a_Book : Addr
  a_Comparer : Addr
  a_Watch : Addr
  a_GainTable : Addr
  a_GameTable : Addr
  a_Lane : Addr
  a_Machine : Addr
  a_Nearest : Addr
  a_Prices : Addr
  a_Rulebook : Addr
  a_Sender : Addr
  a_Speaker : Addr
  a_Standing : Addr
  a_Writer : Addr
  a_Tails : Addr
  a_Teasing : Addr
  a_VersusTable : Addr
  a_WaitTable : Addr
  a_TURNED : Addr
  a_WORD_OF : Addr
  a_WORDS : Addr
  a_STEP_OF : Addr
  a_EarlyError : Addr
  a_AlreadyEnded : Addr
  a_BadArrow : Addr
  a_BadLine : Addr
  a_BadRule : Addr
  a_BeyondEnd : Addr
  a_Broken : Addr
  a_Contradiction : Addr
  a_DoesNotFit : Addr
  a_Ended : Addr
  a_EndsShort : Addr
  a_Finished : Addr
  a_KeepNotShown : Addr
  a_NeedsNoPromise : Addr
  a_NoDeed : Addr
  a_NoElder : Addr
  a_NoRule : Addr
  a_NoSaying : Addr
  a_NoStand : Addr
  a_NoSuchLetter : Addr
  a_NoTick : Addr
  a_NoWait : Addr
  a_NotARing : Addr
  a_NotAScript : Addr
  a_NotAWalk : Addr
  a_NotClaimed : Addr
  a_NotComparable : Addr
  a_NotHeights : Addr
  a_NotLet : Addr
  a_NotOnRim : Addr
  a_NotSent : Addr
  a_NotWhole : Addr
  a_Nothing : Addr
  a_Stopped : Addr
  a_TooMany : Addr
  a_UnderLag : Addr
  a_UnderTotal : Addr
  a_Unsettled : Addr
  a_Wrong : Addr
theorem lO {α : Type} (xs : List α) (i : Nat) : atI xs (i : Int) = xs[i]? := by
  by_cases h : i < xs.length
  · exact (L2.atI_nat (List.getElem?_eq_getElem h)).trans (List.getElem?_eq_getElem h).symm
  · rw [List.getElem?_eq_none (by omega)]
    unfold atI ixN
    rw [if_pos (by omega), if_neg (by omega)]
    rfl
theorem atI_0 {α : Type} (xs : List α) : atI xs 0 = xs[0]? := lO xs 0
theorem atI_1 {α : Type} (xs : List α) : atI xs 1 = xs[1]? := lO xs 1
theorem atI_2 {α : Type} (xs : List α) : atI xs 2 = xs[2]? := lO xs 2
theorem atI_3 {α : Type} (xs : List α) : atI xs 3 = xs[3]? := lO xs 3
def pJ (_ : Ad) : LSp := spBag
def aP (_ : Ad) : LSp := spTake
def dX (_ : Ad) : LSp := spOne
def pq (_ : Ad) : LSp := spMixed
def fj (_ : Ad) : LSp := spAlpha
def oE (_ : Ad) : LSp := spText
def jm (_ : Ad) : LSp := spFull
def dZ (_ : Ad) : LSp := spAlike
abbrev N__law_bag : List Str := ["_law_script", "_law_cell"]
def t__law_bag (ad : Ad) : LS :=
    aW (bR (aa (lC (.int 0)) (aa (lC (.int 1234567891)) (aa (lC (.int 0)) (aa (lLc (lIt (lSl (ao 0) (aJ none) (aJ (some (lC (.int 63)))))) (.nm 1) (cY) (lCB absE (aa (ao 1) (aq))) [1]) (aq))))))
abbrev N__law_take : List Str := ["_law_bag_here", "_law_many", "_law_cell", "_law_mixed_here", "_law_drawn", "_law_early", "_law_second"]
def t__law_take (ad : Ad) : LS :=
    aD (bB (lB (lOp (eqE false) (lOp ixA (ao 0) (lC (.int 0))) (lC (.int 0))))
      (aD (aU (lOp ixA (lOp bJ (lSl (lOp ixA (ao 0) (lC (.int 3))) (aJ (some (lOp ixA (ao 0) (lC (.int 2))))) (aJ none)) (bR (aa (lC (.int 0)) (aq)))) (lC (.int 0))) 2) <|
    aD (cG (fun i j => i + j) (ao 0) (lC (.int 2)) (lC (.int 1))) <|
    aD (bu (ao 0) (lC (.int 0)) (lOp oG (ao 2) (lCB intOf (aa (lOp geE (ao 2) (lOp powE (lC (.int 10)) (lC (.int 18)))) (aq))))) <|
    aD (aU (lOp bJ (lOp bJ (lOp oG (lOp ixA (ao 0) (lC (.int 1))) (lC (.int 48271))) (lOp modE (lCB intOf (aa (ao 2) (aq))) (lC (.int 2147483647)))) (lOp oG (lC (.int 7919)) (lOp ixA (ao 0) (lC (.int 2))))) 3) <|
    bu (ao 0) (lC (.int 1)) (lOp modE (lCB intOf (aa (ao 3) (aq))) (lC (.int 2147483647))))
      (aV)) <|
    aD (bB (lB (lOp gtE (lOp ixA (ao 0) (lC (.int 0))) (lC (.int 0))))
      (aD (aU (lOp modE (lCB intOf (aa (lOp ixA (ao 0) (lC (.int 0))) (aq))) (ao 1)) 4) <|
    aD (bu (ao 0) (lC (.int 0)) (lOp fdivE (lCB intOf (aa (lOp ixA (ao 0) (lC (.int 0))) (aq))) (ao 1))) <|
    aW (ao 4))
      (aV)) <|
    aD (aU (lOp modE (lCB intOf (aa (lOp oG (lOp bJ (lOp ixA (ao 0) (lC (.int 1))) (lC (.int 1))) (lC (.int 39373))) (aq))) (lC (.int 1000000007))) 5) <|
    aD (aU (lOp modE (lCB intOf (aa (lOp oG (lOp modE (lCB intOf (aa (lOp oG (ao 5) (ao 5)) (aq))) (lC (.int 998244353))) (lC (.int 30011))) (aq))) (lC (.int 998244353))) 6) <|
    aW (lOp modE (lCB intOf (aa (lOp fdivE (ao 6) (lC (.int 7))) (aq))) (ao 1))
abbrev N__law_one : List Str := ["_law_bag_here", "_law_some"]
def t__law_one (ad : Ad) : LS :=
    aW (lOp ixA (ao 1) (aA (aP ad) (aa (ao 0) (aa (lCB eG (aa (ao 1) (aq))) (aq)))))
abbrev N__law_mixed : List Str := ["_law_bag_here", "_law_things", "_law_found", "_law_thing"]
def t__law_mixed (ad : Ad) : LS :=
    aD (aU (bR (aq)) 2) <|
    aD (bW (lIt (ao 1)) (.nm 3)
      (bh (lBM "list" insertE (ao 2) (aa (aA (aP ad) (aa (ao 0) (aa (lOp bJ (lCB eG (aa (ao 2) (aq))) (lC (.int 1))) (aq)))) (aa (ao 3) (aq)))))) <|
    aW (ao 2)
abbrev N__law_alphabet : List Str := ["_law_bag_here"]
def t__law_alphabet (ad : Ad) : LS :=
    aW (lSl (aA (pq ad) (aa (ao 0) (aa (bR (aa (lC (.int 0)) (aa (lC (.int 1)) (aa (lC (.int 2)) (aa (lC (.int 3)) (aa (lC (.int 48)) (aa (lC (.int 999999999)) (aa (lOp powE (lC (.int 10)) (lC (.int 9))) (aq))))))))) (aq)))) (aJ none) (aJ (some (aA (dX ad) (aa (ao 0) (aa (bR (aa (lC (.int 2)) (aa (lC (.int 3)) (aa (lC (.int 2)) (aa (lC (.int 1)) (aa (lC (.int 4)) (aq))))))) (aq)))))))
abbrev N__law_text : List Str := ["_law_bag_here", "_law_letters", "_law_most", "_law_k"]
def t__law_text (ad : Ad) : LS :=
    aW (lCB tupleOf (aa (lLc (bx (aa (aA (aP ad) (aa (ao 0) (aa (lOp bJ (ao 2) (lC (.int 1))) (aq)))) (aq))) (.nm 3) (cY) (aA (dX ad) (aa (ao 0) (aa (ao 1) (aq)))) [3]) (aq)))
abbrev N__law_full : List Str := ["_law_bag_here", "_law_letters", "_law_size", "_law_k"]
def t__law_full (ad : Ad) : LS :=
    aW (lCB tupleOf (aa (lLc (bx (aa (ao 2) (aq))) (.nm 3) (cY) (aA (dX ad) (aa (ao 0) (aa (ao 1) (aq)))) [3]) (aq)))
abbrev N__law_alike : List Str := ["_law_found", "_law_due"]
def t__law_alike (ad : Ad) : LS :=
    aW (bV (lOp (eqE false) (ao 0) (ao 1)) (lOp (eqE false) (lCB reprE (aa (ao 0) (aq))) (lCB reprE (aa (ao 1) (aq)))))
theorem pure__law_bag (ad : Ad) (evs : List EV) (h : EH) (Q : EK) (q : pJ ad evs h Q) : t__law_bag ad (aM Q) (bF N__law_bag evs) h := pureBag evs h Q q
theorem pure__law_take (ad : Ad) (evs : List EV) (h : EH) (Q : EK) (q : aP ad evs h Q) : t__law_take ad (aM Q) (bF N__law_take evs) h := pureTake evs h Q q
theorem pure__law_one (ad : Ad) (evs : List EV) (h : EH) (Q : EK) (q : dX ad evs h Q) : t__law_one ad (aM Q) (bF N__law_one evs) h := pureOne evs h Q q
theorem pure__law_mixed (ad : Ad) (evs : List EV) (h : EH) (Q : EK) (q : pq ad evs h Q) : t__law_mixed ad (aM Q) (bF N__law_mixed evs) h := pureMixed evs h Q q
theorem pure__law_alphabet (ad : Ad) (evs : List EV) (h : EH) (Q : EK) (q : fj ad evs h Q) : t__law_alphabet ad (aM Q) (bF N__law_alphabet evs) h := pureAlpha evs h Q q
theorem pure__law_text (ad : Ad) (evs : List EV) (h : EH) (Q : EK) (q : oE ad evs h Q) : t__law_text ad (aM Q) (bF N__law_text evs) h := pureText evs h Q q
theorem pure__law_full (ad : Ad) (evs : List EV) (h : EH) (Q : EK) (q : jm ad evs h Q) : t__law_full ad (aM Q) (bF N__law_full evs) h := pureFull evs h Q q
theorem pure__law_alike (ad : Ad) (evs : List EV) (h : EH) (Q : EK) (q : dZ ad evs h Q) : t__law_alike ad (aM Q) (bF N__law_alike evs) h := pureAlike evs h Q q
theorem len__law_bag (ad : Ad) (evs : List EV) (h : EH) (Q : EK) (q : pJ ad evs h Q) : evs.length = ["_law_script"].length := lenBag evs h Q q
theorem len__law_take (ad : Ad) (evs : List EV) (h : EH) (Q : EK) (q : aP ad evs h Q) : evs.length = ["_law_bag_here", "_law_many"].length := lenTake evs h Q q
theorem len__law_one (ad : Ad) (evs : List EV) (h : EH) (Q : EK) (q : dX ad evs h Q) : evs.length = ["_law_bag_here", "_law_some"].length := lenOne evs h Q q
theorem len__law_mixed (ad : Ad) (evs : List EV) (h : EH) (Q : EK) (q : pq ad evs h Q) : evs.length = ["_law_bag_here", "_law_things"].length := lenMixed evs h Q q
theorem len__law_alphabet (ad : Ad) (evs : List EV) (h : EH) (Q : EK) (q : fj ad evs h Q) : evs.length = ["_law_bag_here"].length := by obtain ⟨_, rfl, _⟩ := q; rfl
theorem len__law_text (ad : Ad) (evs : List EV) (h : EH) (Q : EK) (q : oE ad evs h Q) : evs.length = ["_law_bag_here", "_law_letters", "_law_most"].length := by obtain ⟨_, _, _, _, rfl, _⟩ := q; rfl
theorem len__law_full (ad : Ad) (evs : List EV) (h : EH) (Q : EK) (q : jm ad evs h Q) : evs.length = ["_law_bag_here", "_law_letters", "_law_size"].length := by obtain ⟨_, _, _, _, rfl, _⟩ := q; rfl
theorem len__law_alike (ad : Ad) (evs : List EV) (h : EH) (Q : EK) (q : dZ ad evs h Q) : evs.length = ["_law_found", "_law_due"].length := lenAlike evs h Q q
end Y
namespace Y
def gR : Option Int → Option Int → Option Int
  | none, b => b
  | a, none => a
  | some a, some b => some (min a b)
theorem omin_assoc (a b c : Option Int) : gR (gR a b) c = gR a (gR b c) := by
  cases a <;> cases b <;> cases c <;> simp [gR] <;> try omega
theorem omin_comm (a b : Option Int) : gR a b = gR b a := by
  cases a <;> cases b <;> simp [gR] <;> try omega
theorem qY (a : Option Int) : gR a none = a := by cases a <;> rfl
def rK (a : Option Int) (k : Int) : Option Int := a.map (· + k)
structure bz where
  same : Nat → Nat → Bool
  drop : Nat → Int
  put : Nat → Int
  lag : Nat → Nat → Bool
def bz.best (g : bz) : Nat → Nat → Option Int
  | 0, 0 => some 0
  | i + 1, 0 => if g.lag (i + 1) 0 = true then rK (g.best i 0) (g.drop i) else none
  | 0, j + 1 => if g.lag 0 (j + 1) = true then rK (g.best 0 j) (g.put j) else none
  | i + 1, j + 1 => if g.lag (i + 1) (j + 1) = true then gR (if g.same i j = true then g.best i j else none) (gR (rK (g.best i (j + 1)) (g.drop i)) (rK (g.best (i + 1) j) (g.put j))) else none
  termination_by i j => i + j
def bz.part (g : bz) (done : Nat → Nat → Bool) : Nat → Nat → Option Int
  | 0, 0 => some 0
  | i + 1, 0 => if g.lag (i + 1) 0 = true then (if done i 0 = true then rK (g.best i 0) (g.drop i) else none) else none
  | 0, j + 1 => if g.lag 0 (j + 1) = true then (if done 0 j = true then rK (g.best 0 j) (g.put j) else none) else none
  | i + 1, j + 1 => if g.lag (i + 1) (j + 1) = true then gR (if (g.same i j && done i j) = true then g.best i j else none)
      (gR (if done i (j + 1) = true then rK (g.best i (j + 1)) (g.drop i) else none) (if done (i + 1) j = true then rK (g.best (i + 1) j) (g.put j) else none)) else none
theorem bz.part_best (g : bz) {done : Nat → Nat → Bool} {i j : Nat} (h : ∀ a b, a ≤ i → b ≤ j → (a < i ∨ b < j) → done a b = true) : g.part done i j = g.best i j := by
  match i, j with
  | 0, 0 => rw [part, best]
  | i + 1, 0 => rw [part, best, h i 0 (by omega) (by omega) (by omega)]; simp
  | 0, j + 1 => rw [part, best, h 0 j (by omega) (by omega) (by omega)]; simp
  | i + 1, j + 1 => rw [part, best, h i j (by omega) (by omega) (by omega), h i (j + 1) (by omega) (by omega) (by omega), h (i + 1) j (by omega) (by omega) (by omega)]; simp
def mark (done : Nat → Nat → Bool) (a b : Nat) : Nat → Nat → Bool := fun i j => done i j || (decide (i = a) && decide (j = b))
theorem bz.part_diag (g : bz) {done : Nat → Nat → Bool} {a b : Nat} (hd : done a b = false) : g.part (mark done a b) (a + 1) (b + 1) = if g.lag (a + 1) (b + 1) = true then gR (g.part done (a + 1) (b + 1)) (if g.same a b = true then g.best a b else none) else none := by
  have e1 : mark done a b a (b + 1) = done a (b + 1) := by simp [mark]
  have e2 : mark done a b (a + 1) b = done (a + 1) b := by simp [mark]
  have e3 : mark done a b a b = true := by simp [mark]
  rw [part, part, e1, e2, e3, hd]
  split
  · simp only [Bool.and_true, Bool.and_false, Bool.false_eq_true, if_false]
    rw [show gR none (gR (if done a (b + 1) = true then rK (g.best a (b + 1)) (g.drop a) else none) (if done (a + 1) b = true then rK (g.best (a + 1) b) (g.put b) else none)) = gR (if done a (b + 1) = true then rK (g.best a (b + 1)) (g.drop a) else none) (if done (a + 1) b = true then rK (g.best (a + 1) b) (g.put b) else none) from rfl]
    rw [omin_comm]
  · rfl
theorem omin_swap (a b c : Option Int) : gR a (gR b c) = gR (gR a c) b := by
  rw [omin_assoc, omin_comm c b]
theorem bz.part_down (g : bz) {done : Nat → Nat → Bool} {a b : Nat} (hd : done a b = false) : g.part (mark done a b) (a + 1) b = if g.lag (a + 1) b = true then gR (g.part done (a + 1) b) (rK (g.best a b) (g.drop a)) else none := by
  have e3 : mark done a b a b = true := by simp [mark]
  cases b with
  | zero =>
    rw [part, part, e3, hd]
    split
    · simp only [Bool.false_eq_true, if_false, if_true]
      rfl
    · rfl
  | succ b =>
    have e1 : mark done a (b + 1) a b = done a b := by simp [mark]
    have e2 : mark done a (b + 1) (a + 1) b = done (a + 1) b := by simp [mark]
    rw [part, part, e1, e2, e3, hd]
    split
    · simp only [Bool.false_eq_true, if_false, if_true]
      rw [omin_swap]
      rw [omin_assoc, omin_assoc]
      rfl
    · rfl
theorem bz.part_right (g : bz) {done : Nat → Nat → Bool} {a b : Nat} (hd : done a b = false) : g.part (mark done a b) a (b + 1) = if g.lag a (b + 1) = true then gR (g.part done a (b + 1)) (rK (g.best a b) (g.put b)) else none := by
  have e3 : mark done a b a b = true := by simp [mark]
  cases a with
  | zero =>
    rw [part, part, e3, hd]
    split
    · simp only [Bool.false_eq_true, if_false, if_true]
      rfl
    · rfl
  | succ a =>
    have e1 : mark done (a + 1) b a b = done a b := by simp [mark]
    have e2 : mark done (a + 1) b a (b + 1) = done a (b + 1) := by simp [mark]
    rw [part, part, e1, e2, e3, hd]
    split
    · simp only [Bool.false_eq_true, if_false, if_true]
      rw [qY, omin_assoc]
    · rfl
theorem mark_off {done : Nat → Nat → Bool} {a b i j : Nat} (h : ¬(i = a ∧ j = b)) : mark done a b i j = done i j := by
  unfold mark
  by_cases e : i = a
  · subst e
    have : j ≠ b := fun z => h ⟨rfl, z⟩
    simp [this]
  · simp [e]
theorem bz.part_other (g : bz) {done : Nat → Nat → Bool} {a b i j : Nat} (h1 : ¬(i = a + 1 ∧ j = b + 1)) (h2 : ¬(i = a + 1 ∧ j = b)) (h3 : ¬(i = a ∧ j = b + 1)) : g.part (mark done a b) i j = g.part done i j := by
  match i, j with
  | 0, 0 => rw [part, part]
  | i + 1, 0 => rw [part, part, mark_off (by omega)]
  | 0, j + 1 => rw [part, part, mark_off (by omega)]
  | i + 1, j + 1 => rw [part, part, mark_off (by omega), mark_off (by omega), mark_off (by omega)]
def ptsL (n m : Nat) : List (Nat × Nat) := (List.range (n + 1)).flatMap fun i => (List.range (m + 1)).map fun j => (i, j)
theorem ptsL_mem {n m : Nat} {p : Nat × Nat} : p ∈ ptsL n m ↔ p.1 ≤ n ∧ p.2 ≤ m := by
  unfold ptsL
  rw [List.mem_flatMap]
  constructor
  · rintro ⟨i, hi, hp⟩
    obtain ⟨j, hj, rfl⟩ := List.mem_map.mp hp
    simp at hi hj
    exact ⟨by show i ≤ n; omega, by show j ≤ m; omega⟩
  · intro h
    exact ⟨p.1, by simp; omega, List.mem_map.mpr ⟨p.2, by simp; omega, rfl⟩⟩
def lexL (p q : Nat × Nat) : Prop := p.1 < q.1 ∨ p.1 = q.1 ∧ p.2 < q.2
theorem ptsL_lex (n m : Nat) : (ptsL n m).Pairwise lexL := by
  unfold ptsL
  rw [List.pairwise_flatMap]
  refine ⟨fun i _ => ?_, ?_⟩
  · rw [List.pairwise_map]
    exact List.pairwise_lt_range.imp fun h => .inr ⟨rfl, h⟩
  · refine List.pairwise_lt_range.imp fun {a b} h x hx y hy => ?_
    obtain ⟨_, _, rfl⟩ := List.mem_map.mp hx
    obtain ⟨_, _, rfl⟩ := List.mem_map.mp hy
    exact .inl h
theorem ptsL_turn {n m : Nat} {pre post : List (Nat × Nat)} {i j : Nat} (e : ptsL n m = pre ++ (i, j) :: post) :
    i ≤ n ∧ j ≤ m ∧ (i, j) ∉ pre ∧ ∀ a b, a ≤ i → b ≤ j → (a < i ∨ b < j) → (a, b) ∈ pre := by
  have hm : (i, j) ∈ ptsL n m := by rw [e]; simp
  have hm' := ptsL_mem.mp hm
  have hp := ptsL_lex n m
  rw [e, List.pairwise_append] at hp
  obtain ⟨_, p2, p3⟩ := hp
  refine ⟨hm'.1, hm'.2, fun z => ?_, fun a b ha hb hab => ?_⟩
  · have := p3 _ z (i, j) (by simp)
    unfold lexL at this; simp at this
  · have hx : (a, b) ∈ ptsL n m := ptsL_mem.mpr ⟨Nat.le_trans ha hm'.1, Nat.le_trans hb hm'.2⟩
    rw [e] at hx
    rcases List.mem_append.mp hx with z | z
    · exact z
    · rcases List.mem_cons.mp z with z | z
      · cases z; omega
      · have := (List.pairwise_cons.mp p2).1 _ z
        unfold lexL at this; simp at this; omega
def inL (l : List (Nat × Nat)) (a b : Nat) : Bool := decide ((a, b) ∈ l)
theorem inL_mark (l : List (Nat × Nat)) (i j : Nat) : inL (l ++ [(i, j)]) = mark (inL l) i j := by
  funext a b
  simp [inL, mark, Bool.decide_or]
theorem bz.part_nil (g : bz) (a b : Nat) : g.part (inL []) a b = if a = 0 ∧ b = 0 then some 0 else none := by
  have e : ∀ x y, inL [] x y = false := fun x y => by simp [inL]
  match a, b with
  | 0, 0 => rw [part]; simp
  | i + 1, 0 => rw [part, e]; simp
  | 0, j + 1 => rw [part, e]; simp
  | i + 1, j + 1 => rw [part, e, e, e]; simp [gR]
theorem oadd_none (k : Int) : rK none k = none := rfl
theorem bz.part_skip (g : bz) {done : Nat → Nat → Bool} {i j : Nat} (hd : done i j = false) (hb : g.best i j = none) (a b : Nat) : g.part (mark done i j) a b = g.part done a b := by
  by_cases h1 : a = i + 1 ∧ b = j + 1
  · obtain ⟨rfl, rfl⟩ := h1
    rw [g.part_diag hd, hb]
    by_cases hl : g.lag (i + 1) (j + 1) = true
    · rw [if_pos hl]; simp [qY]
    · rw [if_neg hl, part, if_neg hl]
  by_cases h2 : a = i + 1 ∧ b = j
  · obtain ⟨rfl, rfl⟩ := h2
    rw [g.part_down hd, hb, oadd_none, qY]
    by_cases hl : g.lag (i + 1) b = true
    · rw [if_pos hl]
    · cases b <;> rw [if_neg hl, part, if_neg hl]
  by_cases h3 : a = i ∧ b = j + 1
  · obtain ⟨rfl, rfl⟩ := h3
    rw [g.part_right hd, hb, oadd_none, qY]
    by_cases hl : g.lag a (j + 1) = true
    · rw [if_pos hl]
    · cases a <;> rw [if_neg hl, part, if_neg hl]
  exact g.part_other h1 h2 h3
end Y
namespace Y
open PySem PySem.Spec PyProof.Rows L2
abbrev tx (xs : List Int) : EV := .tup (xs.map EV.int)
def ptE (i j : Nat) : EV := .tup [.int i, .int j]
def pairE (p : Int × Int) : EV := .tup [.int p.1, .int p.2]
inductive Prom where
  | none | total (g : Int) | lag (g : Int)
def Prom.e : Prom → EV
  | .none => .tup [.str [110, 111, 110, 101]]
  | .total g => .tup [.str [116, 111, 116, 97, 108], .int g]
  | .lag g => .tup [.str [108, 97, 103], .int g]
def Prom.ok : Prom → Nat → Nat → Bool
  | .lag g, i, j => decide ((((i : Int) - j).natAbs : Int) ≤ g)
  | _, _, _ => true
abbrev Tab := List (Int × (Int × Int))
def dU (l : Tab) : List (EV × EV) := l.map fun q => (.int q.1, pairE q.2)
def cost (l : Tab) (x : Int) : Int × Int := (l.lookup x).getD (1, 1)
def PrAt (ad : Ad) (h : EH) (r : Nat) (l : Tab) : Prop := ∃ d, h[r]? = some (.slo ad.a_Prices [some (.ref d)]) ∧ h[d]? = some (.dic (dU l))
def mvI (i c : Nat) : Nat := if c = 112 then i else i + 1
def mvJ (j c : Nat) : Nat := if c = 100 then j else j + 1
def isStep (c : Nat) : Prop := c = 107 ∨ c = 100 ∨ c = 112
def lE (l r : List Int) (c i j : Nat) : Bool := if c = 112 then decide (j < r.length) else if c = 100 then decide (i < l.length) else decide (i < l.length) && decide (j < r.length) && decide (l.getD i 0 = r.getD j 0)
def gJ (f : Int → Int × Int) (l r : List Int) (c i j : Nat) : Int := if c = 107 then 0 else if c = 100 then (f (l.getD i 0)).1 else (f (r.getD j 0)).2
structure Wd where
  l : List Int
  r : List Int
  c : Tab
  p : Prom
def Wd.stp (w : Wd) (i j : Nat) : List Nat := [107, 100, 112].filter fun c => lE w.l w.r c i j && w.p.ok (mvI i c) (mvJ j c)
def Wd.stpE (w : Wd) (i j c : Nat) : EV := .tup [.str [c], ptE (mvI i c) (mvJ j c), .int (gJ (cost w.c) w.l w.r c i j)]
def Told (h : EH) (xs : List EV) (Q : EK) : Prop := ∀ r h', aH no1 h h' → h.length ≤ r → h'[r]? = some (.lst xs) → Q (.ref r) h'
def sp_moved (ad : Ad) : LSp := fun evs h Q => ∃ i j c, evs = [ptE i j, .str [c]] ∧ Q (ptE (mvI i c) (mvJ j c)) h
def mO (ad : Ad) : LSp := fun evs h Q => ∃ c i j l r, evs = [.str [c], ptE i j, tx l, tx r] ∧ isStep c ∧ Q (.bl (lE l r c i j)) h
def mJ (ad : Ad) : LSp := fun evs h Q => ∃ p x l, evs = [.ref p, .int x] ∧ PrAt ad h p l ∧ Q (.int (cost l x).1) h
def oY (ad : Ad) : LSp := fun evs h Q => ∃ p x l, evs = [.ref p, .int x] ∧ PrAt ad h p l ∧ Q (.int (cost l x).2) h
def o5 (ad : Ad) : LSp := fun evs h Q => ∃ c i j l r p t, evs = [.str [c], ptE i j, tx l, tx r, .ref p] ∧ isStep c ∧ lE l r c i j = true ∧ PrAt ad h p t ∧ Q (.int (gJ (cost t) l r c i j)) h
def qL (ad : Ad) : LSp := fun evs h Q => ∃ (i j : Nat) (p : Prom), evs = [ptE i j, p.e] ∧ Q (.bl (p.ok i j)) h
def oW (ad : Ad) : LSp := fun evs h Q => ∃ l r, evs = [tx l, tx r] ∧ l.length ≤ 1000 ∧ r.length ≤ 1000 ∧ Told h ((ptsL l.length r.length).map fun p => ptE p.1 p.2) Q
def pB (ad : Ad) : LSp := fun evs h Q => ∃ (w : Wd) (p i j : Nat), evs = [tx w.l, tx w.r, .ref p, w.p.e, ptE i j] ∧ PrAt ad h p w.c ∧ Told h ((w.stp i j).map (w.stpE i j)) Q
abbrev N_moved : List Str := ["point", "step"]
def t_moved (ad : Ad) : LS :=
    aW (aY (aa (lOp bJ (lOp ixA (ao 0) (lC (.int 0))) (lCB intOf (aa (lOp (eqE true) (ao 1) (lC (.str [112]))) (aq)))) (aa (lOp bJ (lOp ixA (ao 0) (lC (.int 1))) (lCB intOf (aa (lOp (eqE true) (ao 1) (lC (.str [100]))) (aq)))) (aq))))
abbrev N_can_be_done : List Str := ["step", "point", "left", "right", "i", "j"]
def o8 (ad : Ad) : LS :=
    aD (di (ao 1) (.tp [.nm 4, .nm 5])) <|
    aD (bB (lOr (cV (lB (lOp (eqE true) (ao 0) (lC (.str [112])))) (lB (lOp geE (ao 4) (lCB eG (aa (ao 2) (aq)))))) (cV (lB (lOp (eqE true) (ao 0) (lC (.str [100])))) (lB (lOp geE (ao 5) (lCB eG (aa (ao 3) (aq)))))))
      (aW (lC (.bl false)))
      (aV)) <|
    aW (fK (lOp (eqE true) (ao 0) (lC (.str [107]))) (lOp (eqE false) (lOp ixA (ao 2) (ao 4)) (lOp ixA (ao 3) (ao 5))))
abbrev N_Prices_drop : List Str := ["self", "letter"]
def oV (ad : Ad) : LS :=
    aW (lOp ixA (lGet2 (lAttr [(ad.a_Prices, 0)] (ao 0)) (ao 1) (lC (.ktup [.int 1, .int 1]))) (lC (.int 0)))
abbrev N_Prices_put : List Str := ["self", "letter"]
def qC (ad : Ad) : LS :=
    aW (lOp ixA (lGet2 (lAttr [(ad.a_Prices, 0)] (ao 0)) (ao 1) (lC (.ktup [.int 1, .int 1]))) (lC (.int 1)))
abbrev N_step_price : List Str := ["step", "point", "left", "right", "prices"]
def qJ (ad : Ad) : LS :=
    aD (bB (lB (lOp (eqE false) (ao 0) (lC (.str [107]))))
      (aW (lC (.int 0)))
      (aV)) <|
    aW (lIf (lB (lOp (eqE false) (ao 0) (lC (.str [100])))) (lMet (List.lookup · [(ad.a_Prices, (mJ ad))]) (ao 4) (aa (lOp ixA (ao 2) (lOp ixA (ao 1) (lC (.int 0)))) (aq))) (lMet (List.lookup · [(ad.a_Prices, (oY ad))]) (ao 4) (aa (lOp ixA (ao 3) (lOp ixA (ao 1) (lC (.int 1)))) (aq))))
abbrev N_is_in_lag : List Str := ["point", "promise"]
def t_is_in_lag (ad : Ad) : LS :=
    aW (fK (lOp (eqE true) (lOp ixA (ao 1) (lC (.int 0))) (lC (.str [108, 97, 103]))) (lOp leE (lCB absE (aa (lOp dY (lOp ixA (ao 0) (lC (.int 0))) (lOp ixA (ao 0) (lC (.int 1)))) (aq))) (lOp ixA (ao 1) (lC (.int 1)))))
abbrev N_all_points : List Str := ["left", "right", "i", "j"]
def qT (ad : Ad) : LS :=
    aW (lLc2 (bx (aa (lOp bJ (lCB eG (aa (ao 0) (aq))) (lC (.int 1))) (aq))) (.nm 2) (cY) (bx (aa (lOp bJ (lCB eG (aa (ao 1) (aq))) (lC (.int 1))) (aq))) (.nm 3) (cY) (aY (aa (ao 2) (aa (ao 3) (aq)))) [2, 3] [3])
abbrev N_steps_from : List Str := ["left", "right", "prices", "promise", "point", "some", "step", "later"]
def qH (ad : Ad) : LS :=
    aD (aU (lLc (lIt (lC (.ktup [.str [107], .str [100], .str [112]]))) (.nm 6) (lT (aA (mO ad) (aa (ao 6) (aa (ao 4) (aa (ao 0) (aa (ao 1) (aq))))))) (aY (aa (ao 6) (aa (aA (sp_moved ad) (aa (ao 4) (aa (ao 6) (aq)))) (aq)))) [6]) 5) <|
    aW (lLc (lIt (ao 5)) (.tp [.nm 6, .nm 7]) (lT (aA (qL ad) (aa (ao 7) (aa (ao 3) (aq))))) (aY (aa (ao 6) (aa (ao 7) (aa (aA (o5 ad) (aa (ao 6) (aa (ao 4) (aa (ao 0) (aa (ao 1) (aa (ao 2) (aq))))))) (aq))))) [6, 7])
theorem tx_at {l : List Int} {i : Nat} (hi : i < l.length) : atI (l.map EV.int) (i : Int) = some (.int (l.getD i 0)) := by
  refine L2.atI_nat ?_
  rw [List.getElem?_map, List.getElem?_eq_getElem hi, List.getD_eq_getElem?_getD, List.getElem?_eq_getElem hi]; rfl
theorem len_moved (ad : Ad) (evs : List EV) (h : EH) (Q : EK) (q : sp_moved ad evs h Q) : evs.length = ["point", "step"].length := by
  obtain ⟨_, _, _, rfl, _⟩ := q; rfl
theorem pure_moved (ad : Ad) (evs : List EV) (h : EH) (Q : EK) (q : sp_moved ad evs h Q) : t_moved ad (aM Q) (bF N_moved evs) h := by
  obtain ⟨i, j, c, rfl, q⟩ := q
  show t_moved ad (aM Q) [some (ptE i j), some (.str [c])] h
  by_cases h1 : c = 112 <;> by_cases h2 : c = 100 <;> simp [t_moved, aD, aU, aW, cQ, bh, bB, lOp, ao, lC, lB, lT, cV, lOr, dB, lIf, bV, fK, cO, aq, aa, aY, bR, lCB, lBM, lSl, aJ, aV, bW, lIt, bx, bD, di, fQ, cR, bu, cG, lLc, fV, fL, aA, bA, gZ, gS, sZ, sS, iZ, aZ, cZ, dG, cH, Pat.bind, Pat.binds, eqE, geE, gtE, leE, ltE, cZ, dG, bJ, dY, eG, ixA, ixE, isN, absE, intOf, isTy, qj, lO, atI_0, atI_1, atI_2, atI_3, cY, ptE, mvI, mvJ, h1, h2, bG] at q ⊢ <;> exact q
theorem len_can_be_done (ad : Ad) (evs : List EV) (h : EH) (Q : EK) (q : mO ad evs h Q) : evs.length = ["step", "point", "left", "right"].length := by
  obtain ⟨_, _, _, _, _, rfl, _⟩ := q; rfl
theorem pure_can_be_done (ad : Ad) (evs : List EV) (h : EH) (Q : EK) (q : mO ad evs h Q) : o8 ad (aM Q) (bF N_can_be_done evs) h := by
  obtain ⟨c, i, j, l, r, rfl, hc, q⟩ := q
  show o8 ad (aM Q) [some (.str [c]), some (ptE i j), some (tx l), some (tx r), none, none] h
  by_cases hi : i < l.length <;> by_cases hj : j < r.length <;> rcases hc with rfl | rfl | rfl <;>
    simp [o8, aD, aU, aW, cQ, bh, bB, lOp, ao, lC, lB, lT, cV, lOr, dB, lIf, bV, fK, cO, aq, aa, aY, bR, lCB, lBM, lSl, aJ, aV, bW, lIt, bx, bD, di, fQ, cR, bu, cG, lLc, fV, fL, aA, bA, gZ, gS, sZ, sS, iZ, aZ, cZ, dG, cH, Pat.bind, Pat.binds, eqE, geE, gtE, leE, ltE, cZ, dG, bJ, dY, eG, ixA, ixE, isN, absE, intOf, isTy, qj, lO, atI_0, atI_1, atI_2, atI_3, cY, ptE, lE, hi, hj, Nat.not_le.mpr, Nat.not_lt.mp] at q ⊢ <;> exact q
theorem len_Prices_drop (ad : Ad) (evs : List EV) (h : EH) (Q : EK) (q : mJ ad evs h Q) : evs.length = ["self", "letter"].length := by
  obtain ⟨_, _, _, rfl, _⟩ := q; rfl
theorem len_Prices_put (ad : Ad) (evs : List EV) (h : EH) (Q : EK) (q : oY ad evs h Q) : evs.length = ["self", "letter"].length := by
  obtain ⟨_, _, _, rfl, _⟩ := q; rfl
theorem tab_getK (l : Tab) (x : Int) : (qF (dU l) (.int x)).getD (.ktup [.int 1, .int 1]) = pairE (cost l x) ∨ (qF (dU l) (.int x)).getD (.ktup [.int 1, .int 1]) = .ktup [.int 1, .int 1] ∧ cost l x = (1, 1) := by
  induction l with
  | nil => exact .inr ⟨rfl, rfl⟩
  | cons q l ih =>
    obtain ⟨k, c⟩ := q
    unfold dU at ih ⊢
    rw [List.map_cons, qF]
    by_cases e : k = x
    · subst e; left; simp [kEq, cost]
    · have e2 : (x == k) = false := by simpa using fun z => e z.symm
      simpa [kEq, e, cost, List.lookup_cons, e2] using ih
theorem tab_get (l : Tab) (x : Int) : (qF (dU l) (.int x)).getD (.tup [.int 1, .int 1]) = pairE (cost l x) := by
  induction l with
  | nil => rfl
  | cons q l ih =>
    obtain ⟨k, c⟩ := q
    unfold dU at ih ⊢
    rw [List.map_cons, qF]
    by_cases e : k = x
    · subst e; simp [kEq, cost]
    · have e2 : (x == k) = false := by simpa using fun z => e z.symm
      simpa [kEq, e, cost, List.lookup_cons, e2] using ih
theorem pure_Prices_drop (ad : Ad) (evs : List EV) (h : EH) (Q : EK) (q : mJ ad evs h Q) : oV ad (aM Q) (bF N_Prices_drop evs) h := by
  obtain ⟨p, x, l, rfl, ⟨d, e1, e2⟩, q⟩ := q
  show oV ad (aM Q) [some (.ref p), some (.int x)] h
  simp only [oV, aD, aU, aW, cQ, bh, bB, lOp, ao, lC, lB, lT, cV, lOr, dB, lIf, bV, fK, cO, aq, aa, aY, bR, lCB, lBM, lSl, aJ, aV, bW, lIt, bx, bD, di, fQ, cR, bu, cG, lLc, fV, fL, aA, bA, gZ, gS, sZ, sS, iZ, aZ, cZ, dG, lGet2, lAttr, qj, e1, e2, List.lookup_cons, beq_self_eq_true, gZ, isDct, isKey, true_and]
  rcases tab_getK l x with e | ⟨e, e3⟩
  · rw [e]; exact ia_t at0 q
  · rw [e]; rw [e3] at q; simpa [ixA, ixE, atI_0] using q
theorem pure_Prices_put (ad : Ad) (evs : List EV) (h : EH) (Q : EK) (q : oY ad evs h Q) : qC ad (aM Q) (bF N_Prices_put evs) h := by
  obtain ⟨p, x, l, rfl, ⟨d, e1, e2⟩, q⟩ := q
  show qC ad (aM Q) [some (.ref p), some (.int x)] h
  simp only [qC, aD, aU, aW, cQ, bh, bB, lOp, ao, lC, lB, lT, cV, lOr, dB, lIf, bV, fK, cO, aq, aa, aY, bR, lCB, lBM, lSl, aJ, aV, bW, lIt, bx, bD, di, fQ, cR, bu, cG, lLc, fV, fL, aA, bA, gZ, gS, sZ, sS, iZ, aZ, cZ, dG, lGet2, lAttr, qj, e1, e2, List.lookup_cons, beq_self_eq_true, gZ, isDct, isKey, true_and]
  rcases tab_getK l x with e | ⟨e, e3⟩
  · rw [e]; exact ia_t at1 q
  · rw [e]; rw [e3] at q; simpa [ixA, ixE, atI_1] using q
theorem len_step_price (ad : Ad) (evs : List EV) (h : EH) (Q : EK) (q : o5 ad evs h Q) : evs.length = ["step", "point", "left", "right", "prices"].length := by
  obtain ⟨_, _, _, _, _, _, _, rfl, _⟩ := q; rfl
theorem pure_step_price (ad : Ad) (evs : List EV) (h : EH) (Q : EK) (q : o5 ad evs h Q) : qJ ad (aM Q) (bF N_step_price evs) h := by
  obtain ⟨c, i, j, l, r, p, t, rfl, hc, hd, ⟨d, e1, e2⟩, q⟩ := q
  show qJ ad (aM Q) [some (.str [c]), some (ptE i j), some (tx l), some (tx r), some (.ref p)] h
  rcases hc with rfl | rfl | rfl <;> simp [lE] at hd <;> simp [qJ, aD, aU, aW, cQ, bh, bB, lOp, ao, lC, lB, lT, cV, lOr, dB, lIf, bV, fK, cO, aq, aa, aY, bR, lCB, lBM, lSl, aJ, aV, bW, lIt, bx, bD, di, fQ, cR, bu, cG, lLc, fV, fL, aA, bA, gZ, gS, sZ, sS, iZ, aZ, cZ, dG, cH, Pat.bind, Pat.binds, eqE, geE, gtE, leE, ltE, cZ, dG, bJ, dY, eG, ixA, ixE, isN, absE, intOf, isTy, qj, lO, atI_0, atI_1, atI_2, atI_3, cY, ptE, gJ, hd, lMet, metK, e1] at q ⊢
  · exact q
  · exact ⟨p, _, t, rfl, ⟨d, e1, e2⟩, q⟩
  · exact ⟨p, _, t, rfl, ⟨d, e1, e2⟩, q⟩
theorem len_is_in_lag (ad : Ad) (evs : List EV) (h : EH) (Q : EK) (q : qL ad evs h Q) : evs.length = ["point", "promise"].length := by
  obtain ⟨_, _, _, rfl, _⟩ := q; rfl
theorem pure_is_in_lag (ad : Ad) (evs : List EV) (h : EH) (Q : EK) (q : qL ad evs h Q) : t_is_in_lag ad (aM Q) (bF N_is_in_lag evs) h := by
  obtain ⟨i, j, p, rfl, q⟩ := q
  show t_is_in_lag ad (aM Q) [some (ptE i j), some p.e] h
  cases p <;> simp [t_is_in_lag, aD, aU, aW, cQ, bh, bB, lOp, ao, lC, lB, lT, cV, lOr, dB, lIf, bV, fK, cO, aq, aa, aY, bR, lCB, lBM, lSl, aJ, aV, bW, lIt, bx, bD, di, fQ, cR, bu, cG, lLc, fV, fL, aA, bA, gZ, gS, sZ, sS, iZ, aZ, cZ, dG, cH, Pat.bind, Pat.binds, eqE, geE, gtE, leE, ltE, cZ, dG, bJ, dY, eG, ixA, ixE, isN, absE, intOf, isTy, qj, lO, atI_0, atI_1, atI_2, atI_3, cY, ptE, Prom.e, Prom.ok] at q ⊢ <;> exact q
theorem lcI_map {g : EH → Prop} {p : Pat} {te : LT} {env : En} {k : EH → Prop} {h : EH} (f : EV → EV) : ∀ (ys acc : List EV), acc.length + ys.length ≤ sizeLine → (∀ acc, g (h ++ [.lst acc])) →
    (∀ y ∈ ys, ∀ acc (ky : EK), ky (f y) (h ++ [.lst acc]) → cH (h ++ [.lst acc]) p y env fun env2 => te env2 (h ++ [.lst acc]) ky) →
    k (h ++ [.lst (acc ++ ys.map f)]) → lcI g p cY te h.length env k ys (h ++ [.lst acc])
  | [], acc, _, hg, _, fin => by
    rw [lcI]
    exact ⟨hg _, by simpa using fin⟩
  | y :: ys, acc, hl, hg, step, fin => by
    rw [lcI]
    refine ⟨hg _, ?_⟩
    have q := step y (by simp) acc (fun y' h4 => match h4[h.length]? with
      | some (.lst acc) => acc.length < sizeLine ∧ lcI g p cY te h.length env k ys (h4.set h.length (.lst (acc ++ [y'])))
      | _ => False) ?_
    · unfold cH at q ⊢
      split at q
      · rename_i e
        simp only [cY, if_true]
        exact q
      · exact q.elim
    · simp only [List.length_cons] at hl
      simp only [bf, qP]
      refine ⟨by omega, lcI_map f ys _ (by simp; omega) hg (fun y hy => step y (List.mem_cons_of_mem _ hy)) (by simpa using fin)⟩
theorem lcO_map {g : EH → Prop} {p p1 : Pat} {ti1 : LI} {tt1 : LTt} {te : LT} {vs1 : List Nat} {env : En} {P : EK} {h : EH} (F : EV → List EV) : ∀ (xs acc : List EV), (∀ acc, g (h ++ [.lst acc])) →
    (acc ++ xs.flatMap F).length ≤ sizeLine →
    (∀ x ∈ xs, ∀ acc (k : EH → Prop), acc.length + (F x).length ≤ sizeLine → k (h ++ [.lst (acc ++ F x)]) → cH (h ++ [.lst acc]) p x env fun env2 => ti1 env2 (h ++ [.lst acc]) fun g1 ys h4 => lcI g1 p1 tt1 te h.length (aZ env2 vs1) k ys h4) →
    P (.ref h.length) (h ++ [.lst (acc ++ xs.flatMap F)]) → lcO g p cY ti1 p1 tt1 te h.length vs1 env P xs (h ++ [.lst acc])
  | [], acc, hg, _, _, fin => by
    rw [lcO]
    exact ⟨hg _, by simpa using fin⟩
  | x :: xs, acc, hg, hl, step, fin => by
    rw [lcO]
    refine ⟨hg _, ?_⟩
    have hl' := hl
    rw [List.flatMap_cons] at hl'
    simp only [List.length_append] at hl'
    have q := step x (by simp) acc (fun h5 => lcO g p cY ti1 p1 tt1 te h.length vs1 env P xs h5) (by omega) ?_
    · unfold cH at q ⊢
      split at q
      · rename_i e
        simpa [cY] using q
      · exact q.elim
    · exact lcO_map F xs _ hg (by simpa [List.flatMap_cons] using hl) (fun x hx => step x (List.mem_cons_of_mem _ hx)) (by simpa [List.flatMap_cons] using fin)
theorem len_all_points (ad : Ad) (evs : List EV) (h : EH) (Q : EK) (q : oW ad evs h Q) : evs.length = ["left", "right"].length := by
  obtain ⟨_, _, rfl, _⟩ := q; rfl
theorem ptsL_len (n m : Nat) : (ptsL n m).length = (n + 1) * (m + 1) := by
  unfold ptsL
  rw [List.length_flatMap]
  simp [List.map_const']
def apF (m : Nat) : EV → List EV
  | .int i => (List.range (m + 1)).map fun (j : Nat) => EV.tup [.int i, .int j]
  | _ => []
theorem pure_all_points (ad : Ad) (evs : List EV) (h : EH) (Q : EK) (q : oW ad evs h Q) : qT ad (aM Q) (bF N_all_points evs) h := by
  obtain ⟨l, r, rfl, hl, hr, q⟩ := q
  show qT ad (aM Q) [some (tx l), some (tx r), none, none] h
  simp [qT, aD, aU, aW, cQ, bh, bB, lOp, ao, lC, lB, lT, cV, lOr, dB, lIf, bV, fK, cO, aq, aa, aY, bR, lCB, lBM, lSl, aJ, aV, bW, lIt, bx, bD, di, fQ, cR, bu, cG, lLc, fV, fL, aA, bA, gZ, gS, sZ, sS, iZ, aZ, cZ, dG, cH, Pat.bind, Pat.binds, eqE, geE, gtE, leE, ltE, cZ, dG, bJ, dY, eG, ixA, ixE, isN, absE, intOf, isTy, qj, lO, atI_0, atI_1, atI_2, atI_3, cY, lLc2]
  refine ⟨⟨by omega, by omega⟩, ?_⟩
  have eF : (eZ 0 ((l.length : Int) + 1).toNat).flatMap (apF r.length) = (ptsL l.length r.length).map fun p => ptE p.1 p.2 := by
    unfold eZ ptsL
    rw [List.flatMap_map, List.map_flatMap]
    rw [show ((l.length : Int) + 1).toNat = l.length + 1 by omega]
    simp [apF, ptE, Function.comp_def]
  have eL := congrArg List.length eF
  rw [List.length_map, ptsL_len] at eL
  have h1 : (l.length + 1) * (r.length + 1) ≤ 1001 * 1001 := Nat.mul_le_mul (by omega) (by omega)
  rw [show ((l.length : Int) + 1).toNat = l.length + 1 by omega] at eF eL
  refine lcO_map (apF r.length) _ [] (fun _ => trivial) (by simp only [List.nil_append]; rw [eL, bG]; omega) ?_ ?_
  · intro x hx acc k hz hk
    unfold eZ at hx
    obtain ⟨i, hi, rfl⟩ := List.mem_map.mp hx
    simp only [apF, List.length_map, List.length_range] at hz hk
    simp [aD, aU, aW, cQ, bh, bB, lOp, ao, lC, lB, lT, cV, lOr, dB, lIf, bV, fK, cO, aq, aa, aY, bR, lCB, lBM, lSl, aJ, aV, bW, lIt, bx, bD, di, fQ, cR, bu, cG, lLc, fV, fL, aA, bA, gZ, gS, sZ, sS, iZ, aZ, cZ, dG, cH, Pat.bind, Pat.binds, eqE, geE, gtE, leE, ltE, cZ, dG, bJ, dY, eG, ixA, ixE, isN, absE, intOf, isTy, qj, lO, atI_0, atI_1, atI_2, atI_3, cY]
    refine ⟨⟨by omega, by omega⟩, ?_⟩
    refine lcI_map (fun v => match v with
      | .int j => EV.tup [.int i, .int j]
      | _ => .non) _ _ ?_ (fun _ => trivial) ?_ ?_
    · unfold eZ
      simp
      omega
    · intro y hy acc ky hk2
      unfold eZ at hy
      obtain ⟨j, hj, rfl⟩ := List.mem_map.mp hy
      simp [aD, aU, aW, cQ, bh, bB, lOp, ao, lC, lB, lT, cV, lOr, dB, lIf, bV, fK, cO, aq, aa, aY, bR, lCB, lBM, lSl, aJ, aV, bW, lIt, bx, bD, di, fQ, cR, bu, cG, lLc, fV, fL, aA, bA, gZ, gS, sZ, sS, iZ, aZ, cZ, dG, cH, Pat.bind, Pat.binds, eqE, geE, gtE, leE, ltE, cZ, dG, bJ, dY, eG, ixA, ixE, isN, absE, intOf, isTy, qj, lO, atI_0, atI_1, atI_2, atI_3, cY, bG] at hk2 ⊢
      exact hk2
    · unfold eZ
      rw [List.map_map]
      simpa [Function.comp_def] using hk
  · rw [List.nil_append, eF]
    exact q _ _ (aH.app _) (Nat.le_refl _) bf
theorem len_steps_from (ad : Ad) (evs : List EV) (h : EH) (Q : EK) (q : pB ad evs h Q) : evs.length = ["left", "right", "prices", "promise", "point"].length := by
  obtain ⟨_, _, _, _, rfl, _⟩ := q; rfl
theorem PrAt.keep {ad : Ad} {h h' : EH} {r : Nat} {l : Tab} (p : PrAt ad h r l) (k : aH no1 h h') : PrAt ad h' r l := by
  obtain ⟨d, a, b⟩ := p
  exact ⟨d, k.at a, k.at b⟩
theorem pure_steps_from (ad : Ad) (evs : List EV) (h : EH) (Q : EK) (q : pB ad evs h Q) : qH ad (aM Q) (bF N_steps_from evs) h := by
  obtain ⟨w, p, i, j, rfl, pr, q⟩ := q
  show qH ad (aM Q) [some (tx w.l), some (tx w.r), some (.ref p), some w.p.e, some (ptE i j), none, none, none] h
  simp only [qH, aD, aU, aW, cQ, bh, bB, lOp, ao, lC, lB, lT, cV, lOr, dB, lIf, bV, fK, cO, aq, aa, aY, bR, lCB, lBM, lSl, aJ, aV, bW, lIt, bx, bD, di, fQ, cR, bu, cG, lLc, fV, fL, aA, bA, gZ, gS, sZ, sS, aZ, cZ, dG]
  refine lc_plain (fun v => match v with
    | .str [c] => if lE w.l w.r c i j = true then some (.tup [.str [c], ptE (mvI i c) (mvJ j c)]) else none
    | _ => none) _ (by rw [bG]; decide) (fun acc => trivial) (fun x hx acc ky kn hy hn => ?_) ?_
  · obtain ⟨c, hc, rfl⟩ : ∃ c, isStep c ∧ x = .str [c] := by
      simp at hx
      rcases hx with rfl | rfl | rfl
      · exact ⟨107, .inl rfl, rfl⟩
      · exact ⟨100, .inr (.inl rfl), rfl⟩
      · exact ⟨112, .inr (.inr rfl), rfl⟩
    simp only [aD, aU, aW, cQ, bh, bB, lOp, ao, lC, lB, lT, cV, lOr, dB, lIf, bV, fK, cO, aq, aa, aY, bR, lCB, lBM, lSl, aJ, aV, bW, lIt, bx, bD, di, fQ, cR, bu, cG, lLc, fV, fL, aA, bA, gZ, gS, sZ, sS, iZ, aZ, cZ, dG, cH, Pat.bind, Pat.binds, eqE, geE, gtE, leE, ltE, cZ, dG, bJ, dY, eG, ixA, ixE, isN, absE, intOf, isTy, qj, lO, atI_0, atI_1, atI_2, atI_3, cY, lT]
    refine ⟨c, i, j, _, _, rfl, hc, ?_⟩
    cases e : lE w.l w.r c i j
    · exact hn (by simp [e])
    · simp only [iZ, if_true]
      exact ⟨i, j, c, rfl, by simp [bG], hy _ (by simp [e])⟩
  · simp only [aD, aU, aW, cQ, bh, bB, lOp, ao, lC, lB, lT, cV, lOr, dB, lIf, bV, fK, cO, aq, aa, aY, bR, lCB, lBM, lSl, aJ, aV, bW, lIt, bx, bD, di, fQ, cR, bu, cG, lLc, fV, fL, aA, bA, gZ, gS, sZ, sS, aZ, cZ, dG, List.getElem?_append_right, Nat.le_refl, Nat.sub_self, bf]
    refine lc_plain (fun v => match v with
      | .tup [.str [c], _] => if w.p.ok (mvI i c) (mvJ j c) = true then some (w.stpE i j c) else none
      | _ => none) _ (by rw [bG]; exact Nat.le_trans (List.length_filterMap_le _ _) (by decide)) (fun acc => dF bf _) (fun x hx acc ky kn hy hn => ?_) ?_
    · obtain ⟨c, hc, hd, rfl⟩ : ∃ c, isStep c ∧ lE w.l w.r c i j = true ∧ x = .tup [.str [c], ptE (mvI i c) (mvJ j c)] := by
        obtain ⟨y, hy, e⟩ := List.mem_filterMap.mp hx
        simp at hy
        rcases hy with rfl | rfl | rfl <;> simp at e
        · exact ⟨107, .inl rfl, e.1, e.2.symm⟩
        · exact ⟨100, .inr (.inl rfl), e.1, e.2.symm⟩
        · exact ⟨112, .inr (.inr rfl), e.1, e.2.symm⟩
      simp only [aD, aU, aW, cQ, bh, bB, lOp, ao, lC, lB, lT, cV, lOr, dB, lIf, bV, fK, cO, aq, aa, aY, bR, lCB, lBM, lSl, aJ, aV, bW, lIt, bx, bD, di, fQ, cR, bu, cG, lLc, fV, fL, aA, bA, gZ, gS, sZ, sS, iZ, aZ, cZ, dG, cH, Pat.bind, Pat.binds, eqE, geE, gtE, leE, ltE, cZ, dG, bJ, dY, eG, ixA, ixE, isN, absE, intOf, isTy, qj, lO, atI_0, atI_1, atI_2, atI_3, cY, lT]
      refine ⟨_, _, w.p, rfl, ?_⟩
      cases e : w.p.ok (mvI i c) (mvJ j c)
      · exact hn (by simp [e])
      · simp only [iZ, if_true]
        refine ⟨c, i, j, _, _, p, w.c, rfl, hc, hd, pr.keep ((aH.app _).trans (aH.app _)), by simp [bG], hy _ (by simp [e, Wd.stpE])⟩
    · refine q _ _ ((aH.app _).trans (aH.app _)) (by simp) ?_
      rw [bf]
      unfold Wd.stp
      cases e1 : lE w.l w.r 107 i j <;> cases e2 : lE w.l w.r 100 i j <;> cases e3 : lE w.l w.r 112 i j <;> cases f1 : w.p.ok (mvI i 107) (mvJ j 107) <;> cases f2 : w.p.ok (mvI i 100) (mvJ j 100) <;> cases f3 : w.p.ok (mvI i 112) (mvJ j 112) <;> simp [e1, e2, e3, f1, f2, f3]
theorem app_f {h : EH} {r : Nat} {xs : List EV} {v : EV} {P : EK} (e : h[r]? = some (.lst xs)) (hl : xs.length < sizeLine) (p : P .non (h.set r (.lst (xs ++ [v])))) : fX (.ref r) [v] h P := by
  unfold fX onList; simp only [e]; exact ⟨hl, p⟩
theorem ext_f {h : EH} {r r2 : Nat} {xs ys : List EV} {P : EK} (e : h[r]? = some (.lst xs)) (e2 : h[r2]? = some (.lst ys)) (hl : xs.length + ys.length ≤ sizeLine) (p : P .non (h.set r (.lst (xs ++ ys)))) : extendE (.ref r) [.ref r2] h P := by
  unfold extendE onList; simp only [e, e2]; exact ⟨hl, p⟩
theorem rH {h : EH} {r : Nat} {xs : List EV} (e : h[r]? = some (.lst xs)) : isTy "list" (.ref r) h := by
  unfold isTy; simp only [e]
def j8 (ad : Ad) : LSp := fun evs h Q => ∃ (b l most : Nat) (xs ns : List Int), evs = [.ref b, tx xs, .ref l, .int most] ∧ h[l]? = some (.lst (ns.map EV.int)) ∧ ns ≠ [] ∧ ns.length ≤ 1000 ∧ l ≠ b ∧ xs.length ≤ 1000000 ∧ (∀ x ∈ xs, x ∈ ns) ∧ cX h b ∧
  ∀ (ms : List Int) (h' : EH), ms.length ≤ most → (∀ m ∈ ms, m ∈ ns) → aH (is1 b) h h' → cX h' b → Q (tx ms) h'
abbrev N__law_edited : List Str := ["_law_bag_here", "_law_text_here", "_law_letters", "_law_most", "_law_found", "_law_letter", "_law_way"]
def pC (ad : Ad) : LS :=
    aD (aU (bR (aq)) 4) <|
    aD (bW (lIt (ao 1)) (.nm 5)
      (aD (aU (aA (aP ad) (aa (ao 0) (aa (lC (.int 9)) (aq)))) 6) <|
    bB (lB (lOp (eqE false) (ao 6) (lC (.int 0))))
      (bh (lBM "list" extendE (ao 4) (aa (bR (aa (aA (dX ad) (aa (ao 0) (aa (ao 2) (aq)))) (aa (ao 5) (aq)))) (aq))))
      (bB (lB (lOp (eqE false) (ao 6) (lC (.int 1))))
      (bh (lBM "list" extendE (ao 4) (aa (bR (aa (ao 5) (aa (ao 5) (aq)))) (aq))))
      (bB (lB (lOp (eqE false) (ao 6) (lC (.int 2))))
      (bh (lBM "list" fX (ao 4) (aa (aA (dX ad) (aa (ao 0) (aa (ao 2) (aq)))) (aq))))
      (bB (lB (lOp gtE (ao 6) (lC (.int 3))))
      (bh (lBM "list" fX (ao 4) (aa (ao 5) (aq))))
      (aV)))))) <|
    aD (bB (lB (lOp (eqE false) (aA (aP ad) (aa (ao 0) (aa (lC (.int 4)) (aq)))) (lC (.int 0))))
      (bh (lBM "list" fX (ao 4) (aa (aA (dX ad) (aa (ao 0) (aa (ao 2) (aq)))) (aq))))
      (aV)) <|
    aW (lCB tupleOf (aa (lSl (ao 4) (aJ none) (aJ (some (ao 3)))) (aq)))
theorem len__law_edited (ad : Ad) (evs : List EV) (h : EH) (Q : EK) (q : j8 ad evs h Q) : evs.length = ["_law_bag_here", "_law_text_here", "_law_letters", "_law_most"].length := by
  obtain ⟨_, _, _, _, _, rfl, _⟩ := q; rfl
theorem pure__law_edited (ad : Ad) (evs : List EV) (h : EH) (Q : EK) (q : j8 ad evs h Q) : pC ad (aM Q) (bF N__law_edited evs) h := by
  obtain ⟨b, l, most, xs, ns, rfl, e, ne, nl, hlb, hxl, hx, B, q⟩ := q
  show pC ad (aM Q) [some (.ref b), some (tx xs), some (.ref l), some (.int most), none, none, none] h
  simp only [pC, aD, aU, aW, cQ, bh, bB, lOp, ao, lC, lB, lT, cV, lOr, dB, lIf, bV, fK, cO, aq, aa, aY, bR, lCB, lBM, lSl, aJ, aV, bW, lIt, bx, bD, di, fQ, cR, bu, cG, lLc, fV, fL, aA, bA, gZ, gS, sZ, sS, iZ, aZ, cZ, dG, List.length_nil, tx]
  refine ⟨by rw [bG]; decide, ?_⟩
  have hb := B.lt
  have hl := cC e
  have drw : ∀ (h2 : EH) (P : EK), aH (is1 b) h h2 → cX h2 b → (∀ m h3, m ∈ ns → aH (is1 b) h2 h3 → cX h3 b → P (.int m) h3) → dX ad [.ref b, .ref l] h2 P := by
    intro h2 P k2 B2 p
    refine ⟨b, l, _, rfl, k2.other e hlb, by simpa using ne, by rw [List.length_map, bG]; omega, hlb, B2, fun x h' hx k' B' => ?_⟩
    obtain ⟨m, hm, rfl⟩ := List.mem_map.mp hx
    exact p m h' hm k' B'
  refine pD (fun left env h' => ∃ (ms rest : List Int) (x5 x6 : Option EV), left = rest.map EV.int ∧ (∀ m ∈ rest, m ∈ ns) ∧ (∀ m ∈ ms, m ∈ ns) ∧ ms.length + 2 * rest.length ≤ 2 * xs.length ∧ env = [some (.ref b), some (.tup (xs.map EV.int)), some (.ref l), some (.int most), some (.ref h.length), x5, x6] ∧ aH (is1 b) h h' ∧ cX h' b ∧ h'[h.length]? = some (.lst (ms.map EV.int))) ?_ ?_ _ _ _ ⟨[], xs, none, none, rfl, hx, by simp, by simp, rfl, aH.app _, B.keep (aH.app _), bf⟩
  · rintro env h' ⟨ms, rest, x5, x6, el, hr, hms, hz, rfl, k, B', e'⟩
    obtain rfl : rest = [] := by simpa using el.symm
    refine ⟨trivial, ?_⟩
    simp only [aD, aU, aW, cQ, bh, bB, lOp, ao, lC, lB, lT, cV, lOr, dB, lIf, bV, fK, cO, aq, aa, aY, bR, lCB, lBM, lSl, aJ, aV, bW, lIt, bx, bD, di, fQ, cR, bu, cG, lLc, fV, fL, aA, bA, gZ, gS, sZ, sS, aZ, cZ, dG]
    refine ⟨b, 4, rfl, by decide, by decide, B', fun d h1 d0 d1 k1 B1 => ?_⟩
    refine eq_i ?_
    have e1 := k1.other e' (by omega)
    simp only [List.length_nil, Nat.mul_zero, Nat.add_zero] at hz
    have fin : ∀ (ms : List Int) h2, aH (is1 b) h h2 → cX h2 b → h2[h.length]? = some (.lst (ms.map EV.int)) → (∀ m ∈ ms, m ∈ ns) → slE (.ref h.length) none (some (most : Int)) h2 fun x h1 => tupleOf [x] h1 Q := by
      intro ms h2 k2 B2 e2 hm2
      refine sl_l e2 ?_
      rw [rN]
      simp only [tupleOf, bf]
      rw [← List.map_take]
      exact q _ _ (by simp; omega) (fun m hm => hm2 m (List.mem_of_mem_take hm)) (k2.trans (aH.app _)) (B2.keep (aH.app _))
    simp only [Bool.false_xor]
    split
    · refine ⟨rH e1, drw _ _ (k.trans k1) B1 fun m h3 hm k3 B3 => ?_⟩
      have e3 := k3.other e1 (by omega)
      refine app_f e3 (by rw [List.length_map, bG]; omega) ?_
      exact fin (ms ++ [m]) _ (((k.trans k1).trans k3).fresh (Nat.le_refl _)) (B3.set hb) (by rw [gK e3]; simp) (fun x hx => by
        rcases List.mem_append.mp hx with z | z
        · exact hms x z
        · rw [List.mem_singleton.mp z]; exact hm)
    · exact fin ms _ (k.trans k1) B1 e1 hms
  · rintro x left env h' kk ⟨ms, rest, x5, x6, el, hr, hms, hz, rfl, k, B', e'⟩ hk
    obtain ⟨c, rest, rfl⟩ : ∃ c r, rest = c :: r := by
      cases rest with
      | nil => simp at el
      | cons c r => exact ⟨c, r, rfl⟩
    rw [List.map_cons, List.cons.injEq] at el
    obtain ⟨rfl, rfl⟩ := el
    refine ⟨trivial, cW ?_⟩
    simp only [aD, aU, aW, cQ, bh, bB, lOp, ao, lC, lB, lT, cV, lOr, dB, lIf, bV, fK, cO, aq, aa, aY, bR, lCB, lBM, lSl, aJ, aV, bW, lIt, bx, bD, di, fQ, cR, bu, cG, lLc, fV, fL, aA, bA, gZ, gS, sZ, sS, aZ, cZ, dG]
    refine ⟨b, 9, rfl, by decide, by decide, B', fun d h1 d0 d1 k1 B1 => ?_⟩
    have e1 := k1.other e' (by omega)
    have k01 := k.trans k1
    simp only [List.length_cons] at hz
    have hcm : c ∈ ns := hr c (by simp)
    have fin : ∀ (ys : List Int) h2, aH (is1 b) h h2 → cX h2 b → h2[h.length]? = some (.lst (ms.map EV.int)) → (∀ m ∈ ys, m ∈ ns) → ys.length ≤ 2 → kk [some (.ref b), some (.tup (xs.map EV.int)), some (.ref l), some (.int most), some (.ref h.length), some (.int c), some (.int d)] (h2.set h.length (.lst (ms.map EV.int ++ ys.map EV.int))) := by
      intro ys h2 k2 B2 e2 hy hyl
      refine hk _ _ ⟨ms ++ ys, rest, _, _, rfl, fun m hm => hr m (by simp [hm]), fun m hm => ?_, by simp; omega, rfl, k2.fresh (Nat.le_refl _), B2.set hb, by rw [gK e2]; simp⟩
      rcases List.mem_append.mp hm with z | z
      · exact hms m z
      · exact hy m z
    refine eq_i ?_
    simp only [Bool.false_xor]
    split
    · refine ⟨rH e1, drw _ _ k01 B1 fun m h3 hm k3 B3 => ⟨by simp [bG], ?_⟩⟩
      have e3 := k3.other e1 (by omega)
      refine ext_f (dF e3 _) bf (by simp [bG]; omega) ?_
      exact fin [m, c] _ ((k01.trans k3).trans (aH.app _)) (B3.keep (aH.app _)) (dF e3 _) (by simp [hm, hcm]) (by simp)
    · refine eq_i ?_
      simp only [Bool.false_xor]
      split
      · refine ⟨rH e1, by simp [bG], ?_⟩
        refine ext_f (dF e1 _) bf (by simp [bG]; omega) ?_
        exact fin [c, c] _ (k01.trans (aH.app _)) (B1.keep (aH.app _)) (dF e1 _) (by simp [hcm]) (by simp)
      · refine eq_i ?_
        simp only [Bool.false_xor]
        split
        · refine ⟨rH e1, drw _ _ k01 B1 fun m h3 hm k3 B3 => ?_⟩
          have e3 := k3.other e1 (by omega)
          refine app_f e3 (by rw [List.length_map, bG]; omega) ?_
          exact fin [m] _ (k01.trans k3) B3 e3 (by simp [hm]) (by simp)
        · refine gt_i ?_
          dsimp only
          split
          · refine ⟨rH e1, app_f e1 (by rw [List.length_map, bG]; omega) ?_⟩
            exact fin [c] _ k01 B1 e1 (by simp [hcm]) (by simp)
          · refine hk _ _ ⟨ms, rest, _, _, rfl, fun m hm => hr m (by simp [hm]), hms, by omega, rfl, k01, B1, e1⟩
def lN (ad : Ad) : LSp := fun evs h Q => ∃ (b l most : Nat) (ns : List Int), evs = [.ref b, .ref l, .int most] ∧ h[l]? = some (.lst (ns.map EV.int)) ∧ ns ≠ [] ∧ ns.length ≤ 1000 ∧ l ≠ b ∧ 0 < most ∧ most < 1000 ∧ cX h b ∧
  ∀ (xs ys : List Int) (h' : EH), xs.length ≤ most → ys.length ≤ most → (∀ m ∈ xs, m ∈ ns) → (∀ m ∈ ys, m ∈ ns) → aH (is1 b) h h' → cX h' b → Q (.tup [tx xs, tx ys]) h'
abbrev N__law_texts : List Str := ["_law_bag_here", "_law_letters", "_law_most", "_law_way", "_law_ring", "_law_base"]
def qD (ad : Ad) : LS :=
    aD (aU (aA (aP ad) (aa (ao 0) (aa (lC (.int 4)) (aq)))) 3) <|
    aD (bB (lB (lOp (eqE false) (ao 3) (lC (.int 0))))
      (aW (aY (aa (aA (oE ad) (aa (ao 0) (aa (ao 1) (aa (ao 2) (aq))))) (aa (aA (oE ad) (aa (ao 0) (aa (ao 1) (aa (ao 2) (aq))))) (aq)))))
      (aV)) <|
    aD (bB (lB (lOp (eqE false) (ao 3) (lC (.int 1))))
      (aD (aU (lOp oG (aA (jm ad) (aa (ao 0) (aa (ao 1) (aa (lOp bJ (lC (.int 1)) (aA (aP ad) (aa (ao 0) (aa (lC (.int 3)) (aq))))) (aq))))) (lOp bJ (ao 2) (lC (.int 1)))) 4) <|
    aW (aY (aa (lSl (ao 4) (aJ none) (aJ (some (aA (aP ad) (aa (ao 0) (aa (lOp bJ (ao 2) (lC (.int 1))) (aq))))))) (aa (lSl (lSl (ao 4) (aJ (some (lC (.int 1)))) (aJ none)) (aJ none) (aJ (some (aA (aP ad) (aa (ao 0) (aa (lOp bJ (ao 2) (lC (.int 1))) (aq))))))) (aq)))))
      (aV)) <|
    aD (aU (aA (jm ad) (aa (ao 0) (aa (ao 1) (aa (lOp bJ (lC (.int 1)) (aA (aP ad) (aa (ao 0) (aa (ao 2) (aq))))) (aq))))) 5) <|
    aW (aY (aa (aA (j8 ad) (aa (ao 0) (aa (ao 5) (aa (ao 1) (aa (ao 2) (aq)))))) (aa (aA (j8 ad) (aa (ao 0) (aa (ao 5) (aa (ao 1) (aa (ao 2) (aq)))))) (aq))))
theorem len__law_texts (ad : Ad) (evs : List EV) (h : EH) (Q : EK) (q : lN ad evs h Q) : evs.length = ["_law_bag_here", "_law_letters", "_law_most"].length := by
  obtain ⟨_, _, _, _, rfl, _⟩ := q; rfl
theorem repN_map (k : Int) (xs : List Int) : lu k (xs.map EV.int) = (lu k xs).map EV.int := by
  unfold lu
  rw [List.map_flatten, List.map_replicate]
theorem repN_mem {k : Int} {xs : List Int} {x : Int} (h : x ∈ lu k xs) : x ∈ xs := by
  unfold lu at h
  obtain ⟨l, hl, hx⟩ := List.mem_flatten.mp h
  rw [List.eq_of_mem_replicate hl] at hx
  exact hx
theorem pure__law_texts (ad : Ad) (evs : List EV) (h : EH) (Q : EK) (q : lN ad evs h Q) : qD ad (aM Q) (bF N__law_texts evs) h := by
  obtain ⟨b, l, most, ns, rfl, e, ne, nl, hlb, m0, m1, B, q⟩ := q
  show qD ad (aM Q) [some (.ref b), some (.ref l), some (.int most), none, none, none] h
  simp only [qD, aD, aU, aW, cQ, bh, bB, lOp, ao, lC, lB, lT, cV, lOr, dB, lIf, bV, fK, cO, aq, aa, aY, bR, lCB, lBM, lSl, aJ, aV, bW, lIt, bx, bD, di, fQ, cR, bu, cG, lLc, fV, fL, aA, bA, gZ, gS, sZ, sS, aZ, cZ, dG]
  have cl : ∀ (l : List Int) (x : Int), (∀ y ∈ l, y ∈ ns) → x ∈ l → x ∈ ns := fun l x z h => z x h
  refine ⟨b, 4, rfl, by decide, by decide, B, fun d h1 d0 d1 k1 B1 => eq_i ?_⟩
  have e1 := k1.other e hlb
  simp only [Bool.false_xor]
  split
  · refine ⟨b, l, most, ns, rfl, e1, ne, nl, hlb, by omega, B1, fun xs h2 xl xm k2 B2 => ?_⟩
    have e2 := k2.other e1 hlb
    refine ⟨b, l, most, ns, rfl, e2, ne, nl, hlb, by omega, B2, fun ys h3 yl ym k3 B3 => ?_⟩
    exact ⟨by simp [bG], q _ _ _ xl yl xm ym ((k1.trans k2).trans k3) B3⟩
  · refine eq_i ?_
    simp only [Bool.false_xor]
    split
    · refine ⟨b, 3, rfl, by decide, by decide, B1, fun d2 h2 d20 d21 k2 B2 => fU ?_⟩
      obtain ⟨z, rfl⟩ := Int.eq_ofNat_of_zero_le d20
      refine ⟨b, l, 1 + z, ns, by simp, k2.other e1 hlb, ne, nl, hlb, by omega, B2, fun xs h3 xl xm k3 B3 => ?_⟩
      refine fU ?_
      refine ⟨⟨by rintro z; have := congrArg List.length z; simp at this; simp [this] at xl; omega, by omega, by omega, by simp; omega⟩, ?_⟩
      rw [repN_map]
      refine ⟨b, (most : Int) + 1, rfl, by omega, by omega, B3, fun d3 h4 d30 d31 k4 B4 => ?_⟩
      obtain ⟨z3, rfl⟩ := Int.eq_ofNat_of_zero_le d30
      simp only [slE]
      refine ⟨b, (most : Int) + 1, rfl, by omega, by omega, B4, fun d4 h5 d40 d41 k5 B5 => ?_⟩
      obtain ⟨z4, rfl⟩ := Int.eq_ofNat_of_zero_le d40
      simp only []
      refine ⟨by simp [bG], ?_⟩
      rw [show (1 : Int) = ((1 : Nat) : Int) from rfl, cut_from, rN, rN, ← List.map_take, ← List.map_drop, ← List.map_take]
      refine q _ _ _ (by simp; omega) (by simp; omega) (fun m hm => xm m (repN_mem (List.mem_of_mem_take hm))) (fun m hm => xm m (repN_mem (List.mem_of_mem_drop (List.mem_of_mem_take hm)))) ((((k1.trans k2).trans k3).trans k4).trans k5) B5
    · refine ⟨b, most, rfl, by omega, by omega, B1, fun d2 h2 d20 d21 k2 B2 => fU ?_⟩
      obtain ⟨z, rfl⟩ := Int.eq_ofNat_of_zero_le d20
      have e2 := k2.other e1 hlb
      refine ⟨b, l, 1 + z, ns, by simp, e2, ne, nl, hlb, by omega, B2, fun xs h3 xl xm k3 B3 => ?_⟩
      have e3 := k3.other e2 hlb
      refine ⟨b, l, most, xs, ns, rfl, e3, ne, nl, hlb, by omega, xm, B3, fun ys h4 yl ym k4 B4 => ?_⟩
      refine ⟨b, l, most, xs, ns, rfl, k4.other e3 hlb, ne, nl, hlb, by omega, xm, B4, fun zs h5 zl zm k5 B5 => ?_⟩
      exact ⟨by simp [bG], q _ _ _ yl zl ym zm ((((k1.trans k2).trans k3).trans k4).trans k5) B5⟩
structure TabOk (l : Tab) : Prop where
  nd : (l.map (·.1)).Nodup
  rg : ∀ q ∈ l, (0 ≤ q.1 ∧ q.1 ≤ 1000000000) ∧ (1 ≤ q.2.1 ∧ q.2.1 ≤ 9) ∧ (1 ≤ q.2.2 ∧ q.2.2 ≤ 9)
theorem tab_put {t : Tab} {x : Int} {c : Int × Int} (h : x ∉ t.map (·.1)) : dPut (dU t) (.int x) (pairE c) = dU (t ++ [(x, c)]) := by
  have g : qF (dU t) (.int x) = none := by
    induction t with
    | nil => rfl
    | cons q t ih =>
      simp only [List.map_cons, List.mem_cons, not_or] at h
      unfold dU at ih ⊢
      rw [List.map_cons, qF]
      rw [if_neg (by simp only [kEq, decide_eq_true_eq]; exact fun z => h.1 z.symm)]
      exact ih h.2
  unfold dPut dHas
  rw [g]
  simp [dU]
def isInt : EV → Bool
  | .int _ => true
  | _ => false
def isBt (v : EV) (lo hi : Int) : Bool := match v with
  | .int i => decide (lo ≤ i) && decide (i ≤ hi)
  | _ => false
def areC : EV → Bool
  | .tup [a, b] => isBt a 1 9 && isBt b 1 9
  | _ => false
def pA (ad : Ad) : LSp := fun evs h Q => ∃ v t, evs = [v] ∧ tyE v h = some t ∧ Q (.bl (isInt v)) h
def jE (ad : Ad) : LSp := fun evs h Q => ∃ v t lo hi, evs = [v, .int lo, .int hi] ∧ tyE v h = some t ∧ Q (.bl (isBt v lo hi)) h
def qO (ad : Ad) : LSp := fun evs h Q => ∃ v t, evs = [v] ∧ tyE v h = some t ∧ Q (.bl (isBt v 0 1000000000)) h
def qR (ad : Ad) : LSp := fun evs h Q => ∃ v t, evs = [v] ∧ tyE v h = some t ∧ (∀ xs, v ≠ .ktup xs) ∧ (∀ xs, v = .tup xs → xs.length = 2 → ∀ x ∈ xs, ∃ t, ∀ h', aH no1 h h' → tyE x h' = some t) ∧ ∀ h', aH no1 h h' → Q (.bl (areC v)) h'
abbrev N_is_integer : List Str := ["thing"]
def qU (ad : Ad) : LS :=
    aW (bV (lCB isiE (aa (ao 0) (aa (lC (.ty "int")) (aq)))) (cO (lCB isiE (aa (ao 0) (aa (lC (.ty "bool")) (aq))))))
abbrev N_is_between : List Str := ["thing", "low", "high"]
def qu (ad : Ad) : LS :=
    aW (bV (aA (pA ad) (aa (ao 0) (aq))) (bA leE leE (ao 1) (ao 0) (ao 2)))
abbrev N_is_letter : List Str := ["thing"]
def t_is_letter (ad : Ad) : LS :=
    aW (aA (jE ad) (aa (ao 0) (aa (lC (.int 0)) (aa (lC (.int 1000000000)) (aq)))))
abbrev N_are_costs : List Str := ["thing", "one"]
def t_are_costs (ad : Ad) : LS :=
    aD (bB (lOr (dB (lT (lCB isiE (aa (ao 0) (aa (lC (.ty "tuple")) (aq)))))) (lB (lOp (eqE true) (lCB eG (aa (ao 0) (aq))) (lC (.int 2)))))
      (aW (lC (.bl false)))
      (aV)) <|
    aW (lCB allE (aa (lLc (lIt (ao 0)) (.nm 1) (cY) (aA (jE ad) (aa (ao 1) (aa (lC (.int 1)) (aa (lC (.int 9)) (aq))))) [1]) (aq)))
theorem len_is_integer (ad : Ad) (evs : List EV) (h : EH) (Q : EK) (q : pA ad evs h Q) : evs.length = ["thing"].length := by
  obtain ⟨_, _, rfl, _⟩ := q; rfl
theorem len_is_between (ad : Ad) (evs : List EV) (h : EH) (Q : EK) (q : jE ad evs h Q) : evs.length = ["thing", "low", "high"].length := by
  obtain ⟨_, _, _, _, rfl, _⟩ := q; rfl
theorem len_is_letter (ad : Ad) (evs : List EV) (h : EH) (Q : EK) (q : qO ad evs h Q) : evs.length = ["thing"].length := by
  obtain ⟨_, _, rfl, _⟩ := q; rfl
theorem len_are_costs (ad : Ad) (evs : List EV) (h : EH) (Q : EK) (q : qR ad evs h Q) : evs.length = ["thing"].length := by
  obtain ⟨_, _, rfl, _⟩ := q; rfl
theorem pure_is_integer (ad : Ad) (evs : List EV) (h : EH) (Q : EK) (q : pA ad evs h Q) : qU ad (aM Q) (bF N_is_integer evs) h := by
  obtain ⟨v, t, rfl, ht, q⟩ := q
  show qU ad (aM Q) [some v] h
  have e : (isiB t "int" && !isiB t "bool") = isInt v := by
    cases v <;> simp [tyE] at ht <;> try (subst ht; rfl)
    split at ht <;> simp at ht <;> subst ht <;> rfl
  simp only [qU, aD, aU, aW, cQ, bh, bB, lOp, ao, lC, lB, lT, cV, lOr, dB, lIf, bV, fK, cO, aq, aa, aY, bR, lCB, lBM, lSl, aJ, aV, bW, lIt, bx, bD, di, fQ, cR, bu, cG, lLc, fV, fL, aA, bA, gZ, gS, sZ, sS, aZ, cZ, dG, isiE, ht]
  refine ⟨by simp, ?_⟩
  cases e1 : isiB t "int"
  · rw [e1] at e
    simp only [Bool.false_eq_true, if_false]
    rw [← e] at q; exact q
  · rw [e1] at e
    simp only [if_true, ht]
    refine ⟨by simp, ?_⟩
    rw [← e] at q
    simpa using q
theorem pure_is_between (ad : Ad) (evs : List EV) (h : EH) (Q : EK) (q : jE ad evs h Q) : qu ad (aM Q) (bF N_is_between evs) h := by
  obtain ⟨v, t, lo, hi, rfl, ht, q⟩ := q
  show qu ad (aM Q) [some v, some (.int lo), some (.int hi)] h
  simp only [qu, aD, aU, aW, cQ, bh, bB, lOp, ao, lC, lB, lT, cV, lOr, dB, lIf, bV, fK, cO, aq, aa, aY, bR, lCB, lBM, lSl, aJ, aV, bW, lIt, bx, bD, di, fQ, cR, bu, cG, lLc, fV, fL, aA, bA, gZ, gS, sZ, sS, aZ, cZ, dG]
  refine ⟨v, t, rfl, ht, ?_⟩
  cases v with
  | int i =>
    simp only [isInt, if_true, isBt] at q ⊢
    refine le_i ?_
    dsimp only
    by_cases h1 : lo ≤ i
    · simp only [h1, decide_true, Bool.true_and, if_true] at q ⊢
      exact le_i q
    · simpa [h1] using q
  | _ => simpa [isInt, isBt] using q
theorem pure_is_letter (ad : Ad) (evs : List EV) (h : EH) (Q : EK) (q : qO ad evs h Q) : t_is_letter ad (aM Q) (bF N_is_letter evs) h := by
  obtain ⟨v, t, rfl, ht, q⟩ := q
  show t_is_letter ad (aM Q) [some v] h
  simp only [t_is_letter, aD, aU, aW, cQ, bh, bB, lOp, ao, lC, lB, lT, cV, lOr, dB, lIf, bV, fK, cO, aq, aa, aY, bR, lCB, lBM, lSl, aJ, aV, bW, lIt, bx, bD, di, fQ, cR, bu, cG, lLc, fV, fL, aA, bA, gZ, gS, sZ, sS, aZ, cZ, dG]
  exact ⟨v, t, _, _, rfl, ht, q⟩
theorem pure_are_costs (ad : Ad) (evs : List EV) (h : EH) (Q : EK) (q : qR ad evs h Q) : t_are_costs ad (aM Q) (bF N_are_costs evs) h := by
  obtain ⟨v, t, rfl, ht, nk, ok, q⟩ := q
  show t_are_costs ad (aM Q) [some v, none] h
  simp only [t_are_costs, aD, aU, aW, cQ, bh, bB, lOp, ao, lC, lB, lT, cV, lOr, dB, lIf, bV, fK, cO, aq, aa, aY, bR, lCB, lBM, lSl, aJ, aV, bW, lIt, bx, bD, di, fQ, cR, bu, cG, lLc, fV, fL, aA, bA, gZ, gS, sZ, sS, aZ, cZ, dG, lT, isiE, ht]
  refine ⟨by simp, ?_⟩
  simp only [iZ]
  by_cases hv : ∃ xs, v = .tup xs
  · obtain ⟨xs, rfl⟩ := hv
    simp [tyE] at ht
    subst ht
    simp only [show isiB "tuple" "tuple" = true from rfl, Bool.not_true, Bool.false_eq_true, if_false, eG]
    refine eq_i ?_
    by_cases hl : xs.length = 2
    · simp only [hl]
      obtain ⟨a, b, rfl⟩ : ∃ a b, xs = [a, b] := by
        match xs, hl with
        | [a, b], _ => exact ⟨a, b, rfl⟩
      obtain ⟨ta, ha⟩ := ok _ rfl rfl a (by simp)
      obtain ⟨tb, hb⟩ := ok _ rfl rfl b (by simp)
      have fin := q (h ++ [.lst [.bl (isBt a 1 9), .bl (isBt b 1 9)]]) (aH.app _)
      simp only [lcE, cH, Pat.bind, aD, aU, aW, cQ, bh, bB, lOp, ao, lC, lB, lT, cV, lOr, dB, lIf, bV, fK, cO, aq, aa, aY, bR, lCB, lBM, lSl, aJ, aV, bW, lIt, bx, bD, di, fQ, cR, bu, cG, lLc, fV, fL, aA, bA, gZ, gS, sZ, sS, aZ, cZ, dG, cY, jE, bf, qP, lTrue]
      refine ⟨trivial, ?_⟩
      simp only [if_true]
      refine ⟨a, ta, 1, 9, rfl, ha _ (aH.app _), ?_⟩
      simp only [bf, qP, List.length_nil, List.nil_append]
      refine ⟨by decide, trivial, ?_⟩
      refine ⟨b, tb, 1, 9, rfl, hb _ (aH.app _), ?_⟩
      simp only [bf, qP, List.length_cons, List.length_nil]
      refine ⟨by decide, trivial, ?_⟩
      simp only [allE, quE, bf]
      refine ⟨[isBt a 1 9, isBt b 1 9], rfl, ?_⟩
      simpa [areC] using fin
    · rw [decide_eq_false (by omega)]
      simp only [Bool.xor_false, if_true]
      have e : areC (.tup xs) = false := by
        match xs, hl with
        | [], _ => rfl
        | [_], _ => rfl
        | [_, _], h => exact absurd rfl h
        | _ :: _ :: _ :: _, _ => rfl
      rw [← e]
      exact q _ .refl
  · have e : isiB t "tuple" = false := by
      cases v <;> simp [tyE] at ht <;> try (subst ht; rfl)
      · exact absurd ⟨_, rfl⟩ hv
      · exact absurd rfl (nk _)
      · split at ht <;> simp at ht <;> subst ht <;> rfl
    rw [e]
    simp only [Bool.not_false, if_true]
    have e2 : areC v = false := by
      cases v <;> first | rfl | exact absurd ⟨_, rfl⟩ hv
    rw [← e2]
    exact q _ .refl
def TabRg (l : Tab) : Prop := ∀ q ∈ l, (0 ≤ q.1 ∧ q.1 ≤ 1000000000) ∧ (1 ≤ q.2.1 ∧ q.2.1 ≤ 9) ∧ (1 ≤ q.2.2 ∧ q.2.2 ≤ 9)
def jP (ad : Ad) : LSp := fun evs h Q => ∃ r l, evs = [.ref r] ∧ h[r]? = some (.dic (dU l)) ∧ TabRg l ∧ l.length ≤ 1000 ∧ ∀ h', aH no1 h h' → Q (.bl true) h'
abbrev N_is_price_table : List Str := ["thing", "letter", "costs"]
def kJ (ad : Ad) : LS :=
    aD (bB (dB (lT (lCB isiE (aa (ao 0) (aa (lC (.ty "dict")) (aq))))))
      (aW (lC (.bl false)))
      (aV)) <|
    aW (lCB allE (aa (lLockE (lLc (lItems (ao 0)) (.tp [.nm 1, .nm 2]) (cY) (bV (aA (qO ad) (aa (ao 1) (aq))) (aA (qR ad) (aa (ao 2) (aq)))) [1, 2])) (aq)))
theorem len_is_price_table (ad : Ad) (evs : List EV) (h : EH) (Q : EK) (q : jP ad evs h Q) : evs.length = ["thing"].length := by
  obtain ⟨_, _, rfl, _⟩ := q; rfl
theorem pure_is_price_table (ad : Ad) (evs : List EV) (h : EH) (Q : EK) (q : jP ad evs h Q) : kJ ad (aM Q) (bF N_is_price_table evs) h := by
  obtain ⟨r, l, rfl, e, rg, ll, q⟩ := q
  show kJ ad (aM Q) [some (.ref r), none, none] h
  simp only [kJ, aD, aU, aW, cQ, bh, bB, lOp, ao, lC, lB, lT, cV, lOr, dB, lIf, bV, fK, cO, aq, aa, aY, bR, lCB, lBM, lSl, aJ, aV, bW, lIt, bx, bD, di, fQ, cR, bu, cG, lLc, fV, fL, aA, bA, gZ, gS, sZ, sS, aZ, cZ, dG, lT, isiE, tyE, e]
  refine ⟨by simp, ?_⟩
  simp only [iZ, show isiB "dict" "dict" = true from rfl, Bool.not_true, Bool.false_eq_true, if_false, lLockE]
  refine ⟨r, _, e, fun od l0 => ?_⟩
  have hr := cC e
  simp only [aD, aU, aW, cQ, bh, bB, lOp, ao, lC, lB, lT, cV, lOr, dB, lIf, bV, fK, cO, aq, aa, aY, bR, lCB, lBM, lSl, aJ, aV, bW, lIt, bx, bD, di, fQ, cR, bu, cG, lLc, fV, fL, aA, bA, gZ, gS, sZ, sS, aZ, cZ, dG, lItems, gK e]
  have d0 := gK (o := EO.dlk od l0 (dU l)) e
  have k0 : ∀ h', aH no1 (h.set r (.dlk od l0 (dU l))) h' → aH no1 h (h'.set r (.dic (dU l))) := by
    intro h' k
    refine ⟨by simpa using k.1, fun x o hx _ => ?_⟩
    by_cases ex : x = r
    · subst ex
      rw [e] at hx
      cases hx
      have := k.at d0
      exact gK this
    · rw [List.getElem?_set_ne (fun z => ex z.symm)]
      exact k.at (dO hx ex)
  generalize hh0 : h.set r (.dlk od l0 (dU l)) = h0 at d0 k0
  refine lc_ind (fun left acc h' => ∃ rest, left = (dU rest).map (fun p => EV.tup [p.1, p.2]) ∧ TabRg rest ∧ (∃ n, acc = (List.replicate n true).map EV.bl ∧ n + rest.length = l.length) ∧ aH no1 h0 h') ?_ ?_ _ [] _ bf ⟨l, rfl, rg, ⟨0, rfl, by simp⟩, aH.app _⟩
  · rintro acc h4 ⟨rest, el, rg', ⟨n, rfl, hn⟩, k⟩ e4
    have hne : h0.length ≠ r := by rw [← hh0]; simp; omega
    have := k.at d0
    refine ⟨this, this, ?_⟩
    simp only [allE, quE]
    rw [dO e4 hne]
    exact ⟨_, rfl, by simpa using q _ (k0 _ k)⟩
  · rintro x left acc h4 ky kn ⟨rest, el, rg', ⟨n, rfl, hn⟩, k⟩ e4 hky _
    obtain ⟨c, rest, rfl⟩ : ∃ c r, rest = c :: r := by
      cases rest with
      | nil => simp [dU] at el
      | cons c r => exact ⟨c, r, rfl⟩
    simp only [dU, List.map_cons, List.cons.injEq] at el
    obtain ⟨rfl, rfl⟩ := el
    obtain ⟨g1, g2, g3⟩ := rg' c (by simp)
    refine ⟨k.at d0, ?_⟩
    simp only [cH, Pat.bind, Pat.binds, aD, aU, aW, cQ, bh, bB, lOp, ao, lC, lB, lT, cV, lOr, dB, lIf, bV, fK, cO, aq, aa, aY, bR, lCB, lBM, lSl, aJ, aV, bW, lIt, bx, bD, di, fQ, cR, bu, cG, lLc, fV, fL, aA, bA, gZ, gS, sZ, sS, aZ, cZ, dG, cY, if_true]
    refine ⟨_, "int", rfl, rfl, ?_⟩
    rw [show isBt (.int c.1) 0 1000000000 = true by simp [isBt, g1]]
    simp only [if_true]
    refine ⟨_, "tuple", rfl, rfl, (fun xs z => EV.noConfusion z), fun xs ex hl x hx => ?_, fun h5 k5 => ?_⟩
    · unfold pairE at ex
      cases ex
      simp at hx
      rcases hx with rfl | rfl <;> exact ⟨"int", fun _ _ => rfl⟩
    · rw [show areC (pairE c.2) = true by simp [areC, pairE, isBt, g2, g3]]
      simp only [List.length_cons] at hn
      have l4 := cC e4
      refine hky _ _ (k5.at e4) (by simp [bG]; omega) ⟨rest, rfl, fun q hq => rg' q (by simp [hq]), ⟨n + 1, by rw [List.replicate_succ']; simp, by omega⟩, (k.trans k5).fresh (Nat.le_refl _)⟩
def rB (t : Tab) : Tab := (t.mergeSort fun a b => decide (a.1 ≤ b.1)).filter fun q => decide (q.2 ≠ (1, 1))
theorem gA {t : Tab} {x : Int} {c : Int × Int} (nd : (t.map (·.1)).Nodup) : t.lookup x = some c ↔ (x, c) ∈ t := by
  induction t with
  | nil => simp
  | cons q t ih =>
    obtain ⟨k, d⟩ := q
    simp only [List.map_cons, List.nodup_cons] at nd
    rw [List.lookup_cons]
    by_cases e : x = k
    · subst e
      simp only [beq_self_eq_true, List.mem_cons, Prod.mk.injEq, true_and, Option.some.injEq]
      constructor
      · rintro rfl; exact .inl rfl
      · rintro (rfl | z)
        · rfl
        · exact absurd (List.mem_map.mpr ⟨_, z, rfl⟩) nd.1
    · have e2 : (x == k) = false := by simpa using e
      rw [e2]
      simp only [ih nd.2, List.mem_cons, Prod.mk.injEq, e, false_and, false_or]
theorem prTab_ok {t : Tab} (ok : TabOk t) : TabOk (rB t) := by
  have p := List.mergeSort_perm t fun a b => decide (a.1 ≤ b.1)
  refine ⟨?_, fun q hq => ok.rg q (p.mem_iff.mp (List.mem_filter.mp hq |>.1))⟩
  refine List.Nodup.sublist (List.Sublist.map _ List.filter_sublist) ?_
  exact ((p.map (·.1)).nodup_iff).mpr ok.nd
theorem prTab_cost {t : Tab} (nd : (t.map (·.1)).Nodup) (x : Int) : cost (rB t) x = cost t x := by
  have p := List.mergeSort_perm t fun a b => decide (a.1 ≤ b.1)
  have nd2 : ((rB t).map (·.1)).Nodup := List.Nodup.sublist (List.Sublist.map _ List.filter_sublist) (((p.map (·.1)).nodup_iff).mpr nd)
  unfold cost
  cases e : t.lookup x with
  | some c =>
    have m := (gA nd).mp e
    by_cases hc : c = (1, 1)
    · cases e2 : (rB t).lookup x with
      | none => simp [hc]
      | some d =>
        have m2 := (gA nd2).mp e2
        unfold rB at m2
        rw [List.mem_filter] at m2
        have := (gA nd).mpr (p.mem_iff.mp m2.1)
        rw [e] at this
        cases this
        rfl
    · have : (x, c) ∈ rB t := by
        unfold rB
        rw [List.mem_filter]
        exact ⟨p.mem_iff.mpr m, by simpa using hc⟩
      rw [(gA nd2).mpr this]
  | none =>
    cases e2 : (rB t).lookup x with
    | none => rfl
    | some d =>
      have m2 := (gA nd2).mp e2
      unfold rB at m2
      rw [List.mem_filter] at m2
      have := (gA nd).mpr (p.mem_iff.mp m2.1)
      rw [e] at this
      cases this
theorem dc_tab {g : EH → Prop} {p : Pat} {tt : LTt} {tk tv : LT} {env : En} {P : EK} {h : EH} (f : EV → Option (Int × (Int × Int))) (xs : List EV) (hl : xs.length ≤ sizeLine) (hg : ∀ acc, g (h ++ [.dic acc])) (nd : ((xs.filterMap f).map (·.1)).Nodup)
    (step : ∀ x ∈ xs, ∀ acc (ky : EV → EV → EH → Prop) (kn : EH → Prop), (∀ q, f x = some q → ky (.int q.1) (pairE q.2) (h ++ [.dic acc])) → (f x = none → kn (h ++ [.dic acc])) →
      cH (h ++ [.dic acc]) p x env fun env2 => tt env2 (h ++ [.dic acc]) fun b h3 => if b = true then tk env2 h3 fun y h4 => tv env2 h4 fun z h5 => ky y z h5 else kn h3)
    (fin : P (.ref h.length) (h ++ [.dic (dU (xs.filterMap f))])) : dcE g p tt tk tv h.length env P xs (h ++ [.dic []]) := by
  have key : ∀ ys (acc : Tab), (∀ x ∈ ys, x ∈ xs) → acc.length + ys.length ≤ xs.length → acc ++ ys.filterMap f = xs.filterMap f → dcE g p tt tk tv h.length env P ys (h ++ [.dic (dU acc)]) := by
    intro ys
    induction ys with
    | nil =>
      intro acc _ _ e
      rw [dcE]
      rw [List.filterMap_nil, List.append_nil] at e
      exact ⟨hg _, by rw [e]; exact fin⟩
    | cons x ys ih =>
      intro acc hm hz e
      rw [dcE]
      simp only [List.length_cons] at hz
      refine ⟨hg _, step x (hm x (by simp)) _ _ _ (fun q hq => ?_) fun hq => ?_⟩
      · simp only [bf, qP]
        refine ⟨trivial, by simp [dU]; omega, ?_⟩
        rw [List.filterMap_cons, hq] at e
        have hk : q.1 ∉ acc.map (·.1) := by
          rw [← e] at nd
          simp only [List.map_append, List.map_cons] at nd
          rw [List.nodup_append] at nd
          intro z
          exact nd.2.2 _ z q.1 (by simp) rfl
        rw [tab_put hk]
        exact ih _ (fun z hz' => hm z (List.mem_cons_of_mem _ hz')) (by simp; omega) (by simpa using e)
      · refine ih _ (fun z hz' => hm z (List.mem_cons_of_mem _ hz')) (by omega) ?_
        rw [List.filterMap_cons, hq] at e
        exact e
  exact key xs [] (fun _ h => h) (by simp) (by simp)
theorem eqE_pairK {n : Bool} {a b c d : Int} {h : EH} {P : EK} (p : P (.bl (n ^^ decide ((a, b) = (c, d)))) h) : eqE n (.tup [.int a, .int b]) (.ktup [.int c, .int d]) h P := by
  unfold eqE
  refine ⟨.tuple [.int a, .int b], .tuple [.int c, .int d], .tup (.cons (.int _) (.cons (.int _) .nil)), .ktup (.cons (.int _) (.cons (.int _) .nil)), ?_⟩
  have e : PyData.eqv (.tuple [.int a, .int b]) (.tuple [.int c, .int d]) = decide ((a, b) = (c, d)) := by
    simp only [PyData.eqv, PyData.eqvAll]
    by_cases h1 : a = c <;> by_cases h2 : b = d <;> simp [h1, h2]
  rw [e]
  exact p
def eX (ad : Ad) : LSp := fun evs h Q => ∃ (p r : Nat) (t : Tab), evs = [.ref p, .ref r] ∧ h[p]? = some (.slo ad.a_Prices []) ∧ h[r]? = some (.dic (dU t)) ∧ TabOk t ∧ t.length < 64 ∧
  ∀ h', aH (is1 p) h h' → PrAt ad h' p (rB t) → Q .non h'
abbrev N_Prices___init__ : List Str := ["self", "table", "letter"]
def jQ (ad : Ad) : LS :=
    aD (bB (dB (lT (aA (jP ad) (aa (ao 1) (aq)))))
      (lNever)
      (aV)) <|
    lSetAt [(ad.a_Prices, 0)] (ao 0) (lDc (lIt (lCB sortE (aa (ao 1) (aq)))) (.nm 2) (lB (lOp (eqE true) (lOp ixA (ao 1) (ao 2)) (lC (.ktup [.int 1, .int 1])))) (ao 2) (lOp ixA (ao 1) (ao 2)) [2])
theorem len_Prices___init__ (ad : Ad) (evs : List EV) (h : EH) (Q : EK) (q : eX ad evs h Q) : evs.length = ["self", "table"].length := by
  obtain ⟨_, _, _, rfl, _⟩ := q; rfl
theorem pure_Prices___init__ (ad : Ad) (evs : List EV) (h : EH) (Q : EK) (q : eX ad evs h Q) : jQ ad (aM Q) (bF N_Prices___init__ evs) h := by
  obtain ⟨p, r, t, rfl, ep, er, ok, tl, q⟩ := q
  show jQ ad (aM Q) [some (.ref p), some (.ref r), none] h
  simp only [jQ, aD, aU, aW, cQ, bh, bB, lOp, ao, lC, lB, lT, cV, lOr, dB, lIf, bV, fK, cO, aq, aa, aY, bR, lCB, lBM, lSl, aJ, aV, bW, lIt, bx, bD, di, fQ, cR, bu, cG, lLc, fV, fL, aA, bA, gZ, gS, sZ, sS, aZ, cZ, dG, lT]
  refine ⟨r, t, rfl, er, ok.rg, by omega, fun h1 k1 => ?_⟩
  simp only [iZ, Bool.not_true, Bool.false_eq_true, if_false, lSetAt, lDc, aD, aU, aW, cQ, bh, bB, lOp, ao, lC, lB, lT, cV, lOr, dB, lIf, bV, fK, cO, aq, aa, aY, bR, lCB, lBM, lSl, aJ, aV, bW, lIt, bx, bD, di, fQ, cR, bu, cG, lLc, fV, fL, aA, bA, gZ, gS, sZ, sS, aZ, cZ, dG, sortE, k1.at er]
  refine ⟨t.map (·.1), by simp [dU], by simpa using tl, fun ys py sy => ?_⟩
  have pm := List.mergeSort_perm t fun a b => decide (a.1 ≤ b.1)
  have sm : (t.mergeSort fun a b => decide (a.1 ≤ b.1)).Pairwise fun a b => a.1 ≤ b.1 := by
    have := List.pairwise_mergeSort (le := fun (a b : Int × (Int × Int)) => decide (a.1 ≤ b.1)) (fun a b c => by simp only [decide_eq_true_eq]; omega) (fun a b => by simp only [Bool.or_eq_true, decide_eq_true_eq]; omega) t
    exact this.imp fun h => by simpa using h
  have ey : ys = (t.mergeSort fun a b => decide (a.1 ≤ b.1)).map (·.1) := by
    refine List.Perm.eq_of_pairwise (le := (· ≤ ·)) (fun a b _ _ h1 h2 => Int.le_antisymm h1 h2) sy ?_ (py.trans (pm.map (·.1)).symm)
    rw [List.pairwise_map]
    exact sm
  have k2 : aH no1 h (h1 ++ [.lst (ys.map EV.int)]) := k1.trans (aH.app _)
  have e1 := k2.at er
  simp only [bf]
  let f : EV → Option (Int × (Int × Int)) := fun v => match v with
    | .int x => if cost t x ≠ (1, 1) then some (x, cost t x) else none
    | _ => none
  have ef : (ys.map EV.int).filterMap f = rB t := by
    rw [ey]
    have key : ∀ l : Tab, (∀ q ∈ l, cost t q.1 = q.2) → ((l.map (·.1)).map EV.int).filterMap f = l.filter fun q => decide (q.2 ≠ (1, 1)) := by
      intro l
      induction l with
      | nil => intro _; rfl
      | cons q l ih =>
        intro hq
        have h1 := hq q (by simp)
        rw [List.map_cons, List.map_cons, List.filterMap_cons, List.filter_cons, ih fun z hz => hq z (by simp [hz])]
        simp only [f, h1]
        by_cases h2 : q.2 = (1, 1)
        · simp [h2]
        · simp [h2]
    refine key _ fun q hq => ?_
    unfold cost
    rw [(gA ok.nd).mpr (show (q.1, q.2) ∈ t from pm.mem_iff.mp hq)]
    rfl
  refine dc_tab f _ (by rw [List.length_map, ey, List.length_map, pm.length_eq, bG]; omega) (fun acc => dF bf _) ?_ (fun x hx acc ky kn hy hn => ?_) ?_
  · rw [ef]; exact (prTab_ok ok).nd
  · obtain ⟨x, hx', rfl⟩ := List.mem_map.mp hx
    simp only [cH, Pat.bind, aD, aU, aW, cQ, bh, bB, lOp, ao, lC, lB, lT, cV, lOr, dB, lIf, bV, fK, cO, aq, aa, aY, bR, lCB, lBM, lSl, aJ, aV, bW, lIt, bx, bD, di, fQ, cR, bu, cG, lLc, fV, fL, aA, bA, gZ, gS, sZ, sS, aZ, cZ, dG]
    have hx2 : x ∈ t.map (·.1) := py.mem_iff.mp hx'
    have eg : qF (dU t) (.int x) = some (pairE (cost t x)) := by
      obtain ⟨q, hq, rfl⟩ := List.mem_map.mp hx2
      have h1 : t.lookup q.1 = some q.2 := (gA ok.nd).mpr hq
      have g := tab_get t q.1
      cases e2 : qF (dU t) (.int q.1) with
      | some v => rw [e2] at g; simpa using g
      | none =>
        exfalso
        clear g hx hx' hy hn ef sm ey
        have key : ∀ l : Tab, q ∈ l → qF (dU l) (.int q.1) ≠ none := by
          intro l
          induction l with
          | nil => intro z; simp at z
          | cons a l ih =>
            intro z
            unfold dU at ih ⊢
            rw [List.map_cons, qF]
            by_cases ea : a.1 = q.1
            · rw [if_pos (by simp [kEq, ea])]; simp
            · rw [if_neg (by simp [kEq, ea])]
              rcases List.mem_cons.mp z with y | y
              · exact absurd (by rw [y]) ea
              · exact ih y
        exact key t hq e2
    have e3 := dF (dF e1 [.dic acc]) []
    refine ia_d (dF e1 _) trivial eg ?_
    unfold pairE
    refine eqE_pairK ?_
    dsimp only
    by_cases hc : cost t x = (1, 1)
    · rw [hc]
      exact hn (by simp [f, hc])
    · have hc' : ¬((cost t x).1, (cost t x).2) = (1, 1) := hc
      rw [decide_eq_false hc']
      simp only [Bool.xor_false, if_true]
      refine ia_d (dF e1 _) trivial eg ?_
      exact hy (x, cost t x) (by simp [f, hc])
  · rw [ef]
    have kf : aH no1 h (h1 ++ [.lst (ys.map EV.int)] ++ [.dic (dU (rB t))]) := k2.trans (aH.app _)
    have ep2 := kf.at ep
    simp only [ep2, List.lookup_cons, beq_self_eq_true]
    refine q _ ((kf.all (c := is1 p)).trans (aH.set rfl)) ⟨(h1 ++ [EO.lst (ys.map EV.int)]).length, ?_, ?_⟩
    · rw [gK ep2]; rfl
    · refine dO bf ?_
      have := cC (k2.at ep)
      omega
def optE : Option Int → EV
  | none => .non
  | some i => .int i
abbrev Tbl := Nat → Nat → Option Int
def eE (m : Nat) (f : Nat → Option Int) : List EV := (List.range (m + 1)).map fun j => optE (f j)
theorem rowE_at {m j : Nat} {f : Nat → Option Int} (h : j ≤ m) : (eE m f)[j]? = some (optE (f j)) := by
  unfold eE
  rw [List.getElem?_map, List.getElem?_range (by omega)]; rfl
theorem rowE_len (m : Nat) (f : Nat → Option Int) : (eE m f).length = m + 1 := by simp [eE]
def d9 (h : EH) (b t r n m : Nat) (R : Tbl) : Prop := ∃ rs : List Nat, h[r]? = some (.lst (rs.map EV.ref)) ∧ rs.length = n + 1 ∧ rs.Nodup ∧ r ∉ rs ∧ (b ≤ r ∧ r < t) ∧ (∀ q ∈ rs, b ≤ q ∧ q < t) ∧ ∀ (i q : Nat), rs[i]? = some q → h[q]? = some (.lst (eE m (R i)))
def upd (R : Tbl) (i j : Nat) (v : Option Int) : Tbl := fun a b => if a = i ∧ b = j then v else R a b
theorem d9.row {h : EH} {b t r n m : Nat} {R : Tbl} (z : d9 h b t r n m R) {i : Nat} (hi : i ≤ n) : ∃ q xs, h[r]? = some (.lst xs) ∧ xs[i]? = some (.ref q) ∧ xs.length = n + 1 ∧ (b ≤ q ∧ q < t) ∧ q ≠ r ∧ h[q]? = some (.lst (eE m (R i))) := by
  obtain ⟨rs, e, l, nd, nr, br, bq, z⟩ := z
  have hl : i < rs.length := by omega
  have e1 : rs[i]? = some rs[i] := List.getElem?_eq_getElem hl
  have hm := List.getElem_mem hl
  exact ⟨rs[i], _, e, by rw [List.getElem?_map, e1]; rfl, by simpa using l, bq _ hm, fun z => nr (by rw [← z]; exact hm), z _ _ e1⟩
theorem rowE_set {m i j : Nat} {R : Tbl} {v : Option Int} (hj : j ≤ m) : (eE m (R i)).set j (optE v) = eE m (upd R i j v i) := by
  refine List.ext_getElem? fun k => ?_
  rw [List.getElem?_set]
  by_cases e : j = k
  · subst e
    have e2 := rowE_at (f := upd R i j v i) hj
    rw [if_pos rfl, rowE_len, if_pos (by omega), e2]
    unfold upd
    rw [if_pos ⟨rfl, rfl⟩]
  · rw [if_neg e]
    unfold eE
    rw [List.getElem?_map, List.getElem?_map]
    by_cases hk : k < m + 1
    · rw [List.getElem?_range hk]
      exact congrArg (fun z => some (optE z)) (if_neg fun z => e z.2.symm).symm
    · rw [List.getElem?_eq_none (by simp; omega)]; rfl
theorem d9.set {h : EH} {b t r n m i j q : Nat} {R : Tbl} {v : Option Int} {xs : List EV} (z : d9 h b t r n m R) (e : h[r]? = some (.lst xs)) (a : xs[i]? = some (.ref q)) (hj : j ≤ m) :
    d9 (h.set q (.lst ((eE m (R i)).set j (optE v)))) b t r n m (upd R i j v) := by
  obtain ⟨rs, e', l, nd, nr, br, bq, z⟩ := z
  rw [e'] at e
  cases e
  rw [List.getElem?_map] at a
  obtain ⟨q', e1, e2⟩ := Option.map_eq_some_iff.mp a
  cases e2
  have hm := List.mem_of_getElem? e1
  have z1 := z _ _ e1
  refine ⟨rs, dO e' (fun y => nr (by rw [y]; exact hm)), l, nd, nr, br, bq, fun k q2 hk => ?_⟩
  by_cases ek : k = i
  · subst ek
    rw [e1] at hk
    cases hk
    rw [gK z1, rowE_set hj]
  · have ne : q2 ≠ q := by
      rintro rfl
      obtain ⟨l1, h1⟩ := List.getElem?_eq_some_iff.mp hk
      obtain ⟨l2, h2⟩ := List.getElem?_eq_some_iff.mp e1
      exact ek ((List.getElem_inj nd).mp (h1.trans h2.symm))
    rw [dO (z _ _ hk) ne]
    refine congrArg (fun f => some (EO.lst (eE m f))) (funext fun x => ?_)
    simp [upd, ek]
theorem setA_row {h : EH} {q m j : Nat} {f : Nat → Option Int} {v : EV} {P : EH → Prop} (z : h[q]? = some (.lst (eE m f))) (hj : j ≤ m) (p : P (h.set q (.lst ((eE m f).set j v)))) : setA (.ref q) (.int j) v h P :=
  sa_l z (k := j) (by unfold ixN; rw [if_pos (by omega), if_pos (by rw [rowE_len]; omega)]; simp) p
theorem d9.keep {h h' : EH} {b t r n m : Nat} {R : Tbl} (z : d9 h b t r n m R) (k : aH no1 h h') : d9 h' b t r n m R := by
  obtain ⟨rs, e, l, nd, nr, br, bq, z⟩ := z
  exact ⟨rs, k.at e, l, nd, nr, br, bq, fun i q hq => k.at (z i q hq)⟩
theorem d9.more {h : EH} {b t t' r n m : Nat} {R : Tbl} (z : d9 h b t r n m R) (l : t ≤ t') : d9 h b t' r n m R := by
  obtain ⟨rs, e, l', nd, nr, br, bq, z⟩ := z
  exact ⟨rs, e, l', nd, nr, ⟨br.1, by omega⟩, fun q hq => ⟨(bq q hq).1, Nat.lt_of_lt_of_le (bq q hq).2 l⟩, z⟩
theorem d9.congr {h : EH} {b t r n m : Nat} {R R' : Tbl} (z : d9 h b t r n m R) (e : ∀ i j, i ≤ n → j ≤ m → R i j = R' i j) : d9 h b t r n m R' := by
  obtain ⟨rs, e', l, nd, nr, br, bq, z⟩ := z
  refine ⟨rs, e', l, nd, nr, br, bq, fun i q hq => ?_⟩
  rw [z i q hq]
  have hi := (List.getElem?_eq_some_iff.mp hq).1
  unfold eE
  refine congrArg (fun l => some (EO.lst l)) (List.map_congr_left fun j hj => ?_)
  simp at hj
  rw [e i j (by omega) (by omega)]
def Wd.g (w : Wd) : bz where
  same i j := decide (w.l.getD i 0 = w.r.getD j 0)
  drop i := (cost w.c (w.l.getD i 0)).1
  put j := (cost w.c (w.r.getD j 0)).2
  lag := w.p.ok
abbrev Wd.n (w : Wd) : Nat := w.l.length
abbrev Wd.m (w : Wd) : Nat := w.r.length
def Wd.relax (w : Wd) (i j : Nat) (here : Int) : Tbl → List Nat → Tbl
  | R, [] => R
  | R, c :: cs => Wd.relax w i j here (upd R (mvI i c) (mvJ j c) (gR (R (mvI i c) (mvJ j c)) (some (here + gJ (cost w.c) w.l w.r c i j)))) cs
theorem Wd.relax_at (w : Wd) (i j : Nat) (here : Int) (R : Tbl) (a b : Nat) : w.relax i j here R (w.stp i j) a b =
    if a = i + 1 ∧ b = j + 1 then (if (lE w.l w.r 107 i j && w.p.ok (i + 1) (j + 1)) = true then gR (R a b) (some here) else R a b)
    else if a = i + 1 ∧ b = j then (if (lE w.l w.r 100 i j && w.p.ok (i + 1) j) = true then gR (R a b) (some (here + w.g.drop i)) else R a b)
    else if a = i ∧ b = j + 1 then (if (lE w.l w.r 112 i j && w.p.ok i (j + 1)) = true then gR (R a b) (some (here + w.g.put j)) else R a b)
    else R a b := by
  have e2 : w.g.drop i = (cost w.c (w.l.getD i 0)).1 := rfl
  have e3 : w.g.put j = (cost w.c (w.r.getD j 0)).2 := rfl
  rw [e2, e3]
  unfold Wd.stp
  simp only [List.filter_cons, List.filter_nil]
  have m1 : mvI i 107 = i + 1 := rfl
  have m2 : mvI i 100 = i + 1 := rfl
  have m3 : mvI i 112 = i := rfl
  have m4 : mvJ j 107 = j + 1 := rfl
  have m5 : mvJ j 100 = j := rfl
  have m6 : mvJ j 112 = j + 1 := rfl
  simp only [m1, m2, m3, m4, m5, m6]
  by_cases h1 : a = i + 1 ∧ b = j + 1
  · obtain ⟨rfl, rfl⟩ := h1
    split <;> split <;> split <;> simp [Wd.relax, upd, gJ, m1, m2, m3, m4, m5, m6]
  by_cases h2 : a = i + 1 ∧ b = j
  · obtain ⟨rfl, rfl⟩ := h2
    split <;> split <;> split <;> simp [Wd.relax, upd, gJ, m1, m2, m3, m4, m5, m6]
  by_cases h3 : a = i ∧ b = j + 1
  · obtain ⟨rfl, rfl⟩ := h3
    split <;> split <;> split <;> simp [Wd.relax, upd, gJ, m1, m2, m3, m4, m5, m6]
  rw [if_neg h1, if_neg h2, if_neg h3]
  split <;> split <;> split <;> simp [Wd.relax, upd, gJ, m1, m2, m3, m4, m5, m6, h1, h2, h3]
theorem Wd.relax_part (w : Wd) {done : Nat → Nat → Bool} {i j : Nat} {here : Int} (hd : done i j = false) (hb : w.g.best i j = some here) (a b : Nat) (ha : a ≤ w.n) (hb' : b ≤ w.m) :
    w.relax i j here (w.g.part done) (w.stp i j) a b = w.g.part (mark done i j) a b := by
  have lg : ∀ x y, w.g.lag x y = w.p.ok x y := fun _ _ => rfl
  have e1 : w.g.same i j = decide (w.l.getD i 0 = w.r.getD j 0) := rfl
  have f1 : ∀ x y, ¬w.p.ok x y = true → (0 < x ∨ 0 < y) → w.g.part done x y = none := by
    intro x y hxy h0
    match x, y with
    | 0, 0 => omega
    | x + 1, 0 => rw [bz.part, lg, if_neg hxy]
    | 0, y + 1 => rw [bz.part, lg, if_neg hxy]
    | x + 1, y + 1 => rw [bz.part, lg, if_neg hxy]
  rw [w.relax_at]
  by_cases h1 : a = i + 1 ∧ b = j + 1
  · obtain ⟨rfl, rfl⟩ := h1
    rw [if_pos ⟨rfl, rfl⟩, w.g.part_diag hd, lg, hb, e1]
    by_cases hl : w.p.ok (i + 1) (j + 1) = true
    · have c1 : lE w.l w.r 107 i j = decide (w.l.getD i 0 = w.r.getD j 0) := by
        simp only [Wd.n, Wd.m] at ha hb'
        simp [lE, show i < w.l.length by omega, show j < w.r.length by omega]
      rw [c1, hl, Bool.and_true, if_pos rfl]
      split
      · rfl
      · rw [qY]
    · rw [if_neg hl, f1 _ _ hl (by omega)]
      simp [hl]
  rw [if_neg h1]
  by_cases h2 : a = i + 1 ∧ b = j
  · obtain ⟨rfl, rfl⟩ := h2
    rw [if_pos ⟨rfl, rfl⟩, w.g.part_down hd, lg, hb]
    by_cases hl : w.p.ok (i + 1) b = true
    · have c1 : lE w.l w.r 100 i b = true := by
        simp only [Wd.n] at ha
        simp [lE, show i < w.l.length by omega]
      rw [c1, hl, Bool.and_true, if_pos rfl]
      rfl
    · rw [if_neg hl, f1 _ _ hl (by omega)]
      simp [hl]
  rw [if_neg h2]
  by_cases h3 : a = i ∧ b = j + 1
  · obtain ⟨rfl, rfl⟩ := h3
    rw [if_pos ⟨rfl, rfl⟩, w.g.part_right hd, lg, hb]
    by_cases hl : w.p.ok a (j + 1) = true
    · have c1 : lE w.l w.r 112 a j = true := by
        simp only [Wd.m] at hb'
        simp [lE, show j < w.r.length by omega]
      rw [c1, hl, Bool.and_true, if_pos rfl]
      rfl
    · rw [if_neg hl, f1 _ _ hl (by omega)]
      simp [hl]
  rw [if_neg h3, w.g.part_other h1 h2 h3]
theorem Wd.stp_le (w : Wd) {i j c : Nat} (hc : c ∈ w.stp i j) (hi : i ≤ w.l.length) (hj : j ≤ w.r.length) : mvI i c ≤ w.l.length ∧ mvJ j c ≤ w.r.length := by
  unfold Wd.stp at hc
  simp only [List.mem_filter, List.mem_cons, List.not_mem_nil, or_false, Bool.and_eq_true] at hc
  obtain ⟨rfl | rfl | rfl, hd, _⟩ := hc <;> simp [lE] at hd <;> simp [mvI, mvJ] <;> omega
theorem Wd.relax_snoc (w : Wd) (i j : Nat) (here : Int) (R : Tbl) (dn : List Nat) (c : Nat) : w.relax i j here R (dn ++ [c]) = upd (w.relax i j here R dn) (mvI i c) (mvJ j c) (gR (w.relax i j here R dn (mvI i c) (mvJ j c)) (some (here + gJ (cost w.c) w.l w.r c i j))) := by
  induction dn generalizing R with
  | nil => rfl
  | cons a dn ih => rw [List.cons_append, Wd.relax, ih]; rfl
def ToldRows (h : EH) (n m : Nat) (R : Tbl) (Q : EK) : Prop := ∀ r h', aH no1 h h' → d9 h' h.length h'.length r n m R → Q (.ref r) h'
def sp_grid (ad : Ad) : LSp := fun evs h Q => ∃ (w : Wd) (p : Nat), evs = [tx w.l, tx w.r, .ref p, w.p.e] ∧ PrAt ad h p w.c ∧ w.n ≤ 1000 ∧ w.m ≤ 1000 ∧ ToldRows h w.n w.m w.g.best Q
abbrev N_grid : List Str := ["left", "right", "prices", "promise", "rows", "point", "here", "step", "i", "j", "cost"]
def t_grid (ad : Ad) : LS :=
    aD (aU (lLc (bx (aa (lOp bJ (lCB eG (aa (ao 0) (aq))) (lC (.int 1))) (aq))) (.nm 8) (cY) (lOp oG (bR (aa (lC .non) (aq))) (lOp bJ (lCB eG (aa (ao 1) (aq))) (lC (.int 1)))) [8]) 4) <|
    aD (bu (lOp ixA (ao 4) (lC (.int 0))) (lC (.int 0)) (lC (.int 0))) <|
    aD (bW (lIt (aA (oW ad) (aa (ao 0) (aa (ao 1) (aq))))) (.nm 5)
      (aD (aU (lOp ixA (lOp ixA (ao 4) (lOp ixA (ao 5) (lC (.int 0)))) (lOp ixA (ao 5) (lC (.int 1)))) 6) <|
    bB (lB (lOp (isN true) (ao 6) (lC .non)))
      (bW (lIt (aA (pB ad) (aa (ao 0) (aa (ao 1) (aa (ao 2) (aa (ao 3) (aa (ao 5) (aq)))))))) (.tp [.nm 7, .tp [.nm 8, .nm 9], .nm 10])
      (bB (lOr (lB (lOp (isN false) (lOp ixA (lOp ixA (ao 4) (ao 8)) (ao 9)) (lC .non))) (lB (lOp ltE (lOp bJ (ao 6) (ao 10)) (lOp ixA (lOp ixA (ao 4) (ao 8)) (ao 9)))))
      (bu (lOp ixA (ao 4) (ao 8)) (ao 9) (lOp bJ (ao 6) (ao 10)))
      (aV)))
      (aV))) <|
    aW (ao 4)
theorem len_grid (ad : Ad) (evs : List EV) (h : EH) (Q : EK) (q : sp_grid ad evs h Q) : evs.length = ["left", "right", "prices", "promise"].length := by
  obtain ⟨_, _, rfl, _⟩ := q; rfl
theorem repN_one (k : Nat) (x : EV) : lu (k : Int) [x] = List.replicate k x := by
  unfold lu
  simp [List.flatten_replicate_singleton]
theorem rowE_none (m : Nat) : List.replicate (m + 1) EV.non = eE m fun _ => none := by
  unfold eE
  rw [List.map_const', List.length_range]; rfl
theorem rows_none {h : EH} {n m : Nat} {env : En} {P : EK} {p : Pat} {ta : LT} {i : Nat} (hn : n ≤ 1000) (hm : m ≤ 1000) (hp : p = .nm i)
    (hta : ∀ (v : EV) (h1 : EH) (P1 : EK), P1 (.int (m + 1 : Nat)) h1 → ta (env.set i (some v)) h1 P1)
    (fin : ∀ r h', aH no1 h h' → d9 h' h.length h'.length r n m (fun _ _ => none) → P (.ref r) h') :
    lcE lTrue p cY (lOp oG (bR (aa (lC .non) aq)) ta) h.length env P (eZ 0 (n + 1)) (h ++ [.lst []]) := by
  subst hp
  refine lc_ind (fun left acc h' => ∃ rs : List Nat, acc = rs.map EV.ref ∧ rs.Nodup ∧ (∀ q ∈ rs, h.length < q ∧ q < h'.length ∧ h'[q]? = some (.lst (eE m fun _ => none))) ∧ rs.length + left.length = n + 1 ∧ aH no1 h h' ∧ h.length < h'.length ∧ ∀ v ∈ left, ∃ k : Int, v = .int k) ?_ ?_ _ [] _ bf ⟨[], rfl, List.nodup_nil, by simp, by simp [eZ], aH.app _, by simp, fun v hv => ?_⟩
  · rintro acc h4 ⟨rs, rfl, nd, z, l, k, _, _⟩ e4
    refine ⟨trivial, fin _ _ k ⟨rs, e4, by simpa using l, nd, fun y => Nat.lt_irrefl _ (z _ y).1, ⟨Nat.le_refl _, cC e4⟩, fun q hq => ⟨Nat.le_of_lt (z q hq).1, (z q hq).2.1⟩, fun i q hq => (z q (List.mem_of_getElem? hq)).2.2⟩⟩
  · rintro x left acc h4 ky kn ⟨rs, rfl, nd, z, l, k, lt, hle⟩ e4 hky _
    obtain ⟨xi, rfl⟩ := hle x (by simp)
    refine ⟨trivial, cW ?_⟩
    simp only [cY, lOp, bR, aa, lC, aq, if_true]
    refine ⟨by simp [bG], hta _ _ _ ?_⟩
    simp only [oG, bf]
    refine ⟨⟨by omega, by omega, by rw [bG]; simp; omega⟩, ?_⟩
    have hr : lu ((m + 1 : Nat) : Int) [EV.non] = eE m fun _ => none := by rw [repN_one, rowE_none]
    rw [hr]
    have h5 : (h4 ++ [EO.lst [.non]] ++ [.lst (eE m fun _ => none)])[(h4 ++ [EO.lst [EV.non]]).length]? = some (.lst (eE m fun _ => none)) := bf
    simp only [List.length_append, List.length_singleton] at h5 ⊢
    simp only [List.length_cons] at l
    refine hky _ _ (dF (dF e4 _) _) (by rw [List.length_map, bG]; omega) ⟨rs ++ [h4.length + 1], by simp, ?_, ?_, by simp; omega, ((k.trans (aH.app _)).trans (aH.app _)).fresh (Nat.le_refl _), by simp; omega, fun v hv => hle v (List.mem_cons_of_mem _ hv)⟩
    · rw [List.nodup_append]
      refine ⟨nd, by simp, fun a ha b hb => ?_⟩
      have := (z a ha).2.1
      simp at hb
      omega
    · intro q hq
      rcases List.mem_append.mp hq with y | y
      · obtain ⟨a, b, c⟩ := z q y
        exact ⟨a, by simp; omega, dO (dF (dF c _) _) (by omega)⟩
      · have : q = h4.length + 1 := by simpa using y
        subst this
        exact ⟨by omega, by simp, dO h5 (by omega)⟩
  · unfold eZ at hv
    obtain ⟨i, _, rfl⟩ := List.mem_map.mp hv
    exact ⟨_, rfl⟩
theorem pure_grid (ad : Ad) (evs : List EV) (h : EH) (Q : EK) (q : sp_grid ad evs h Q) : t_grid ad (aM Q) (bF N_grid evs) h := by
  obtain ⟨w, p, rfl, pr, hn, hm, q⟩ := q
  simp only [Wd.n, Wd.m] at hn hm q
  show t_grid ad (aM Q) [some (tx w.l), some (tx w.r), some (.ref p), some w.p.e, none, none, none, none, none, none, none] h
  unfold t_grid
  rw [aD]
  simp only [aD, aU, aW, cQ, bh, bB, lOp, ao, lC, lB, lT, cV, lOr, dB, lIf, bV, fK, cO, aq, aa, aY, bR, lCB, lBM, lSl, aJ, aV, bW, lIt, bx, bD, di, fQ, cR, bu, cG, lLc, fV, fL, aA, bA, gZ, gS, sZ, sS, iZ, aZ, cZ, dG, tx, eG, bJ, List.length_map]
  refine ⟨⟨by omega, by omega⟩, ?_⟩
  rw [show ((w.l.length : Int) + 1).toNat = w.l.length + 1 by omega]
  refine rows_none hn hm rfl (fun v h1 P1 q1 => by simpa [aD, aU, aW, cQ, bh, bB, lOp, ao, lC, lB, lT, cV, lOr, dB, lIf, bV, fK, cO, aq, aa, aY, bR, lCB, lBM, lSl, aJ, aV, bW, lIt, bx, bD, di, fQ, cR, bu, cG, lLc, fV, fL, aA, bA, gZ, gS, sZ, sS, iZ, aZ, cZ, dG, cH, Pat.bind, Pat.binds, eqE, geE, gtE, leE, ltE, cZ, dG, bJ, dY, eG, ixA, ixE, isN, absE, intOf, isTy, qj, lO, atI_0, atI_1, atI_2, atI_3, cY] using q1) fun r h1 k1 t1 => ?_
  obtain ⟨qr, xs, ex, ax, lx, bq, nq, zx⟩ := t1.row (Nat.zero_le _)
  simp only [ixA, ixE, ex, atI_0, ax]
  refine setA_row (j := 0) zx (Nat.zero_le _) ?_
  have t2 := t1.set (v := some 0) ex ax (Nat.zero_le _)
  have k2 : aH no1 h _ := k1.fresh (o := .lst ((eE w.r.length fun _ => none).set 0 (.int 0))) bq.1
  have l2 : (h1.set qr (.lst ((eE w.r.length fun _ => none).set 0 (.int 0)))).length = h1.length := by simp
  simp only [optE] at t2
  generalize h1.set qr (.lst ((eE w.r.length fun _ => none).set 0 (.int 0))) = h2 at t2 k2 l2 ⊢
  generalize h1.length = T at t1 t2 l2 bq
  refine ⟨_, _, rfl, hn, hm, fun r3 h3 k3 b3 e3 => ?_⟩
  have t3 := t2.keep k3
  have k3' := k2.trans k3
  have hT := k3.1
  simp only [e3]
  have t4 : d9 h3 h.length T r w.l.length w.r.length (w.g.part (inL [])) := t3.congr fun i j _ _ => by
    rw [bz.part_nil]; simp [upd]
  refine pD (fun left env h' => ∃ (pre post : List (Nat × Nat)) (x5 x6 x7 x8 x9 x10 : Option EV), ptsL w.l.length w.r.length = pre ++ post ∧ left = post.map (fun p => ptE p.1 p.2) ∧ env = [some (tx w.l), some (tx w.r), some (.ref p), some w.p.e, some (.ref r), x5, x6, x7, x8, x9, x10] ∧ aH no1 h h' ∧ T ≤ h'.length ∧ h'[r3]? = some (.lst ((ptsL w.l.length w.r.length).map fun p => ptE p.1 p.2)) ∧ d9 h' h.length T r w.l.length w.r.length (w.g.part (inL pre))) ?_ ?_ _ _ _ ⟨[], _, none, none, none, none, none, none, rfl, rfl, rfl, k3', by omega, e3, t4⟩
  · rintro env h' ⟨pre, post, x5, x6, x7, x8, x9, x10, ep, el, rfl, k, lT, e4, t⟩
    obtain rfl : post = [] := by simpa using el.symm
    refine ⟨e4, ?_⟩
    simp only [aD, aU, aW, cQ, bh, bB, lOp, ao, lC, lB, lT, cV, lOr, dB, lIf, bV, fK, cO, aq, aa, aY, bR, lCB, lBM, lSl, aJ, aV, bW, lIt, bx, bD, di, fQ, cR, bu, cG, lLc, fV, fL, aA, bA, gZ, gS, sZ, sS, iZ, aZ, cZ, dG]
    refine q _ _ k ((t.congr fun i j hi hj => w.g.part_best fun a b ha hb _ => ?_).more lT)
    rw [List.append_nil] at ep
    rw [← ep]
    simp only [inL, decide_eq_true_eq]
    exact ptsL_mem.mpr ⟨by show a ≤ _; omega, by show b ≤ _; omega⟩
  · rintro x left env h' kk ⟨pre, post, x5, x6, x7, x8, x9, x10, ep, el, rfl, k, lT, e4, t⟩ hk
    obtain ⟨⟨i, j⟩, post, rfl⟩ : ∃ c r, post = c :: r := by
      cases post with
      | nil => simp at el
      | cons c r => exact ⟨c, r, rfl⟩
    rw [List.map_cons, List.cons.injEq] at el
    obtain ⟨rfl, rfl⟩ := el
    refine ⟨e4, cW ?_⟩
    obtain ⟨hi, hj, hnd, hall⟩ := ptsL_turn ep
    have hd : inL pre i j = false := by simpa [inL] using hnd
    have hbest : w.g.part (inL pre) i j = w.g.best i j := w.g.part_best fun a b ha hb hab => by simpa [inL] using hall a b ha hb hab
    obtain ⟨qr, xs, ex, ax, _, _, _, zx⟩ := t.row hi
    have ep' : ptsL w.l.length w.r.length = (pre ++ [(i, j)]) ++ post := by rw [ep]; simp
    simp only [aD, aU, aW, cQ, bh, bB, lOp, ao, lC, lB, lT, cV, lOr, dB, lIf, bV, fK, cO, aq, aa, aY, bR, lCB, lBM, lSl, aJ, aV, bW, lIt, bx, bD, di, fQ, cR, bu, cG, lLc, fV, fL, aA, bA, gZ, gS, sZ, sS, iZ, aZ, cZ, dG, cH, Pat.bind, Pat.binds, eqE, geE, gtE, leE, ltE, cZ, dG, bJ, dY, eG, ixA, ixE, isN, absE, intOf, isTy, qj, lO, atI_0, atI_1, atI_2, atI_3, cY, ptE, gZ, gS, ex, ax, zx, rowE_at hj, hbest]
    cases hb : w.g.best i j with
    | none =>
      simp only [optE, Bool.not_true, Bool.false_eq_true, if_false]
      refine hk _ _ ⟨pre ++ [(i, j)], post, _, _, _, _, _, _, ep', rfl, rfl, k, lT, e4, t.congr fun a b _ _ => ?_⟩
      rw [inL_mark]
      exact (w.g.part_skip hd hb a b).symm
    | some here =>
      simp only [optE, if_true]
      refine ⟨w, p, i, j, rfl, pr.keep k, fun r5 h5 k5 b5 e5 => ?_⟩
      simp only [e5]
      have t5 := t.keep k5
      have l5 := k5.1
      refine pD (fun left env h' => ∃ (dn cs : List Nat) (x7 x8 x9 x10 : Option EV), w.stp i j = dn ++ cs ∧ left = cs.map (w.stpE i j) ∧ env = [some (tx w.l), some (tx w.r), some (.ref p), some w.p.e, some (.ref r), some (ptE i j), some (.int here), x7, x8, x9, x10] ∧ aH no1 h h' ∧ T ≤ h'.length ∧ h'[r3]? = some (.lst ((ptsL w.l.length w.r.length).map fun p => ptE p.1 p.2)) ∧ h'[r5]? = some (.lst ((w.stp i j).map (w.stpE i j))) ∧ d9 h' h.length T r w.l.length w.r.length (w.relax i j here (w.g.part (inL pre)) dn)) ?_ ?_ _ _ _ ⟨[], _, _, _, _, _, rfl, rfl, rfl, k.trans k5, by omega, k5.at e4, e5, t5⟩
      · rintro env h6 ⟨dn, cs, y7, y8, y9, y10, es, el, rfl, k6, l6, e46, e56, t6⟩
        obtain rfl : cs = [] := by simpa using el.symm
        refine ⟨e56, hk _ _ ⟨pre ++ [(i, j)], post, _, _, _, _, _, _, ep', rfl, rfl, k6, l6, e46, t6.congr fun a b ha hb' => ?_⟩⟩
        rw [List.append_nil] at es
        rw [← es, w.relax_part hd hb a b ha hb', inL_mark]
      · rintro x left env h6 kk2 ⟨dn, cs, y7, y8, y9, y10, es, el, rfl, k6, l6, e46, e56, t6⟩ hk2
        obtain ⟨c, cs, rfl⟩ : ∃ c r, cs = c :: r := by
          cases cs with
          | nil => simp at el
          | cons c r => exact ⟨c, r, rfl⟩
        rw [List.map_cons, List.cons.injEq] at el
        obtain ⟨rfl, rfl⟩ := el
        refine ⟨e56, ?_⟩
        have hc : c ∈ w.stp i j := by rw [es]; simp
        obtain ⟨bi, bj⟩ := w.stp_le hc hi hj
        have es' : w.stp i j = (dn ++ [c]) ++ cs := by rw [es]; simp
        obtain ⟨qr, xs, ex, ax, _, bq, _, zx⟩ := t6.row bi
        simp only [Wd.stpE, aD, aU, aW, cQ, bh, bB, lOp, ao, lC, lB, lT, cV, lOr, dB, lIf, bV, fK, cO, aq, aa, aY, bR, lCB, lBM, lSl, aJ, aV, bW, lIt, bx, bD, di, fQ, cR, bu, cG, lLc, fV, fL, aA, bA, gZ, gS, sZ, sS, iZ, aZ, cZ, dG, cH, Pat.bind, Pat.binds, eqE, geE, gtE, leE, ltE, cZ, dG, bJ, dY, eG, ixA, ixE, isN, absE, intOf, isTy, qj, lO, atI_0, atI_1, atI_2, atI_3, cY, ptE, gZ, gS, ex, ax, zx, rowE_at bj]
        have fin : ∀ h7, aH no1 h h7 → T ≤ h7.length → h7[r3]? = some (.lst ((ptsL w.l.length w.r.length).map fun p => ptE p.1 p.2)) → h7[r5]? = some (.lst ((w.stp i j).map (w.stpE i j))) →
            d9 h7 h.length T r w.l.length w.r.length (w.relax i j here (w.g.part (inL pre)) (dn ++ [c])) →
            kk2 [some (tx w.l), some (tx w.r), some (.ref p), some w.p.e, some (.ref r), some (ptE i j), some (.int here), some (.str [c]), some (.int (mvI i c)), some (.int (mvJ j c)), some (.int (gJ (cost w.c) w.l w.r c i j))] h7 :=
          fun h7 a1 a2 a3 a4 a5 => hk2 _ _ ⟨dn ++ [c], cs, _, _, _, _, es', rfl, rfl, a1, a2, a3, a4, a5⟩
        rw [w.relax_snoc] at fin
        generalize hR : w.relax i j here (w.g.part (inL pre)) dn = R at t6 zx fin ⊢
        have doit := fun (eo : gR (R (mvI i c) (mvJ j c)) (some (here + gJ (cost w.c) w.l w.r c i j)) = some (here + gJ (cost w.c) w.l w.r c i j)) => by
          rw [eo] at fin
          exact setA_row (v := .int (here + gJ (cost w.c) w.l w.r c i j)) zx bj (fin _ (k6.fresh bq.1) (by simpa using l6) (dO e46 (by omega)) (dO e56 (by omega)) (t6.set (v := some (here + gJ (cost w.c) w.l w.r c i j)) ex ax bj))
        cases hv : R (mvI i c) (mvJ j c) with
        | none =>
          simp only [optE, Bool.not_false, if_true]
          exact doit (by rw [hv]; rfl)
        | some v =>
          simp only [optE, Bool.false_eq_true, if_false]
          by_cases lt : here + gJ (cost w.c) w.l w.r c i j < v
          · simp only [lt, decide_true, if_true]
            exact doit (by rw [hv, gR]; congr 1; omega)
          · simp only [lt, decide_false, Bool.false_eq_true, if_false]
            refine fin _ k6 l6 e46 e56 (t6.congr fun a b _ _ => ?_)
            unfold upd
            split
            · rename_i e
              rw [e.1, e.2, hv, gR]; congr 1; omega
            · rfl
theorem none_omin (o : Option Int) : gR none o = o := by cases o <;> rfl
theorem eqE_nil {n : Bool} {a b : Nat} {ns : List Int} {h : EH} {P : EK} (e : h[a]? = some (.lst (ns.map EV.int))) (e2 : h[b]? = some (.lst [])) (p : P (.bl (n ^^ decide (ns = []))) h) : eqE n (.ref a) (.ref b) h P := by
  unfold eqE
  have d1 : ∀ l : List Int, oH h 59 (l.map EV.int) (l.map PyData.int) := by
    intro l
    induction l with
    | nil => exact .nil
    | cons x l ih => exact .cons (.int x) ih
  refine ⟨.list (ns.map PyData.int), .list [], .lst e (d1 ns), .lst e2 .nil, ?_⟩
  have e3 : PyData.eqv (.list (ns.map PyData.int)) (.list []) = decide (ns = []) := by
    cases ns <;> simp [PyData.eqv, PyData.eqvAll]
  rw [e3]
  exact p
def PromNN : Prom → Prop
  | .lag g => 0 ≤ g
  | _ => True
theorem omin_some {a b : Option Int} {v : Int} (h : gR a b = some v) : a = some v ∨ b = some v := by
  cases a with
  | none => rw [none_omin] at h; exact .inr h
  | some x =>
    cases b with
    | none => rw [qY] at h; exact .inl h
    | some y =>
      simp only [gR, Option.some.injEq] at h ⊢
      omega
theorem lZ {a : Option Int} {k v : Int} (h : rK a k = some v) : ∃ u, a = some u ∧ v = u + k := by
  cases a with
  | none => cases h
  | some u => simp [rK] at h; exact ⟨u, rfl, h.symm⟩
structure bz.Small (g : bz) : Prop where
  d : ∀ i, 1 ≤ g.drop i ∧ g.drop i ≤ 9
  p : ∀ j, 1 ≤ g.put j ∧ g.put j ≤ 9
theorem bz.best_le (g : bz) (s : g.Small) : ∀ (i j : Nat) (v : Int), g.best i j = some v → 0 ≤ v ∧ v ≤ 9 * ((i : Int) + j)
  | 0, 0, v, h => by
    rw [best] at h
    cases h
    exact ⟨by decide, by decide⟩
  | i + 1, 0, v, h => by
    rw [best] at h
    split at h
    · obtain ⟨u, e, rfl⟩ := lZ h
      have := g.best_le s i 0 u e
      have := s.d i
      omega
    · cases h
  | 0, j + 1, v, h => by
    rw [best] at h
    split at h
    · obtain ⟨u, e, rfl⟩ := lZ h
      have := g.best_le s 0 j u e
      have := s.p j
      omega
    · cases h
  | i + 1, j + 1, v, h => by
    rw [best] at h
    split at h
    · rcases omin_some h with h | h
      · split at h
        · have := g.best_le s i j v h
          omega
        · cases h
      · rcases omin_some h with h | h
        · obtain ⟨u, e, rfl⟩ := lZ h
          have := g.best_le s i (j + 1) u e
          have := s.d i
          omega
        · obtain ⟨u, e, rfl⟩ := lZ h
          have := g.best_le s (i + 1) j u e
          have := s.p j
          omega
    · cases h
  termination_by i j => i + j
def optD : Option Int → PyData
  | none => .none
  | some i => .int i
def rowD (m : Nat) (f : Nat → Option Int) : PyData := .list ((List.range (m + 1)).map fun j => optD (f j))
def OSm (o : Option Int) : Prop := ∀ v, o = some v → v.natAbs < 10 ^ 12
theorem optE_ds {h : EH} {n : Nat} {o : Option Int} (s : OSm o) : DS h n 41 (optE o) (optD o) := by
  cases o with
  | none => exact .non
  | some v => exact .int (s v rfl) (Nat.le_refl _)
theorem ds_map {α : Type} {h : EH} {n k : Nat} {f : α → EV} {d : α → PyData} : ∀ (l : List α), (∀ x ∈ l, DS h n k (f x) (d x)) → DSs h n (l.length * (k + 1)) (l.map f) (l.map d)
  | [], _ => by simpa using DSs.nil
  | x :: l, hs => by
    have := DSs.cons (hs x (by simp)) (ds_map l fun y hy => hs y (List.mem_cons_of_mem _ hy))
    refine this.more ?_
    rw [List.length_cons, Nat.add_mul]; omega
theorem row_ds {h : EH} {q m n : Nat} {f : Nat → Option Int} (e : h[q]? = some (.lst (eE m f))) (s : ∀ j, j ≤ m → OSm (f j)) : DS h (n + 1) ((m + 1) * 42) (.ref q) (rowD m f) := by
  refine DS.lst e ?_
  have := ds_map (h := h) (n := n) (k := 41) (f := fun j => optE (f j)) (d := fun j => optD (f j)) (List.range (m + 1)) fun j hj => optE_ds (s j (by simp at hj; omega))
  rw [List.length_range] at this
  exact this
end Y
namespace Y
open PySem PySem.Spec PyProof.Rows L2
structure Bw where
  sm : Nat → Nat → Bool
  a : Int
  b : Int
  lam : Nat
abbrev Cel := Nat × Nat
def Bw.g (B : Bw) : bz := ⟨B.sm, fun _ => B.a, fun _ => B.b, (Prom.lag B.lam).ok⟩
structure Bw.Ok (B : Bw) : Prop where
  a : 1 ≤ B.a ∧ B.a ≤ 9
  b : 1 ≤ B.b ∧ B.b ≤ 9
  l : 1 ≤ B.lam ∧ B.lam ≤ 2
def Bw.inB (B : Bw) (p : Cel) : Prop := p.1 ≤ p.2 + B.lam ∧ p.2 ≤ p.1 + B.lam
instance (B : Bw) (p : Cel) : Decidable (B.inB p) := inferInstanceAs (Decidable (_ ∧ _))
def Bw.D (B : Bw) (p : Cel) : Int := (B.g.best p.1 p.2).getD 0
def Bw.into (B : Bw) (i j : Nat) : List (Cel × Int) := (if (decide (0 < i) && (decide (0 < j) && B.sm (i - 1) (j - 1))) = true then [((i - 1, j - 1), (0 : Int))] else []) ++ ((if 0 < i then [((i - 1, j), B.a)] else []) ++ (if 0 < j then [((i, j - 1), B.b)] else []))
def Bw.E (B : Bw) (p q : Cel) (c : Int) : Prop := (p, c) ∈ B.into q.1 q.2 ∧ B.inB p ∧ B.inB q
def Bw.T (B : Bw) (p q : Cel) : Prop := ∃ c, B.E p q c ∧ B.D p + c = B.D q
theorem lag_in {B : Bw} {i j : Nat} : B.g.lag i j = decide (B.inB (i, j)) := by
  show decide ((((i : Int) - j).natAbs : Int) ≤ B.lam) = decide _
  refine decide_eq_decide.mpr ?_
  unfold Bw.inB
  simp only
  omega
theorem d7 {B : Bw} {i j : Nat} {p : Cel} {c : Int} : (p, c) ∈ B.into i j ↔ (0 < i ∧ 0 < j ∧ B.sm (i - 1) (j - 1) = true ∧ p = (i - 1, j - 1) ∧ c = 0) ∨ (0 < i ∧ p = (i - 1, j) ∧ c = B.a) ∨ (0 < j ∧ p = (i, j - 1) ∧ c = B.b) := by
  unfold Bw.into
  rw [List.mem_append, List.mem_append]
  constructor
  · rintro (h | h | h)
    · split at h
      · rename_i e
        simp only [Bool.and_eq_true, decide_eq_true_eq] at e
        simp only [List.mem_singleton, Prod.mk.injEq] at h
        exact .inl ⟨e.1, e.2.1, e.2.2, h.1, h.2⟩
      · cases h
    · split at h
      · rename_i e
        simp only [List.mem_singleton, Prod.mk.injEq] at h
        exact .inr (.inl ⟨e, h.1, h.2⟩)
      · cases h
    · split at h
      · rename_i e
        simp only [List.mem_singleton, Prod.mk.injEq] at h
        exact .inr (.inr ⟨e, h.1, h.2⟩)
      · cases h
  · rintro (⟨h1, h2, h3, rfl, rfl⟩ | ⟨h1, rfl, rfl⟩ | ⟨h1, rfl, rfl⟩)
    · left
      rw [if_pos (by simp [h1, h2, h3])]; simp
    · right; left
      rw [if_pos h1]; simp
    · right; right
      rw [if_pos h1]; simp
theorem omin_leL {x y : Option Int} {v u : Int} (h : gR x y = some v) (e : x = some u) : v ≤ u := by
  subst e
  cases y with
  | none => cases h; exact Int.le_refl _
  | some w => simp only [gR, Option.some.injEq] at h; omega
theorem omin_leR {x y : Option Int} {v u : Int} (h : gR x y = some v) (e : y = some u) : v ≤ u := by
  rw [omin_comm] at h
  exact omin_leL h e
theorem omin_no {x y : Option Int} (h : gR x y = none) : x = none ∧ y = none := by
  cases x <;> cases y <;> simp [gR] at h ⊢
variable {B : Bw}
theorem best_in (ok : B.Ok) : ∀ (i j : Nat), B.inB (i, j) → ∃ v, B.g.best i j = some v ∧ 0 ≤ v
  | 0, 0, _ => ⟨0, by rw [bz.best], by decide⟩
  | i + 1, 0, h => by
    have h2 : B.inB (i, 0) := by unfold Bw.inB at h ⊢; simp only at h ⊢; omega
    obtain ⟨v, e, n⟩ := best_in ok i 0 h2
    have := ok.a
    refine ⟨v + B.a, ?_, by omega⟩
    rw [bz.best, lag_in, decide_eq_true h, if_pos rfl, e]; rfl
  | 0, j + 1, h => by
    have h2 : B.inB (0, j) := by unfold Bw.inB at h ⊢; simp only at h ⊢; omega
    obtain ⟨v, e, n⟩ := best_in ok 0 j h2
    have := ok.b
    refine ⟨v + B.b, ?_, by omega⟩
    rw [bz.best, lag_in, decide_eq_true h, if_pos rfl, e]; rfl
  | i + 1, j + 1, h => by
    have s : B.g.Small := ⟨fun _ => ok.a, fun _ => ok.b⟩
    have l := ok.l
    cases e : B.g.best (i + 1) (j + 1) with
    | some v => exact ⟨v, rfl, (B.g.best_le s _ _ _ e).1⟩
    | none =>
      exfalso
      rw [bz.best, lag_in, decide_eq_true h, if_pos rfl] at e
      obtain ⟨_, e⟩ := omin_no e
      obtain ⟨e1, e2⟩ := omin_no e
      by_cases c : j ≤ i
      · have h2 : B.inB (i, j + 1) := by unfold Bw.inB at h ⊢; simp only at h ⊢; omega
        obtain ⟨v, e3, _⟩ := best_in ok i (j + 1) h2
        rw [e3] at e1; cases e1
      · have h2 : B.inB (i + 1, j) := by unfold Bw.inB at h ⊢; simp only at h ⊢; omega
        obtain ⟨v, e3, _⟩ := best_in ok (i + 1) j h2
        rw [e3] at e2; cases e2
theorem best_out (i j : Nat) (h : ¬ B.inB (i, j)) : B.g.best i j = none := by
  match i, j with
  | 0, 0 => exact absurd (by unfold Bw.inB; simp) h
  | i + 1, 0 => rw [bz.best, lag_in, decide_eq_false h]; rfl
  | 0, j + 1 => rw [bz.best, lag_in, decide_eq_false h]; rfl
  | i + 1, j + 1 => rw [bz.best, lag_in, decide_eq_false h]; rfl
theorem best_D (ok : B.Ok) {p : Cel} (h : B.inB p) : B.g.best p.1 p.2 = some (B.D p) ∧ 0 ≤ B.D p := by
  obtain ⟨v, e, n⟩ := best_in ok p.1 p.2 h
  unfold Bw.D
  rw [e]
  exact ⟨rfl, n⟩
theorem D_zero : B.D (0, 0) = 0 := by unfold Bw.D; rw [bz.best]; rfl
theorem E_le (ok : B.Ok) {p q : Cel} {c : Int} (h : B.E p q c) : B.D q ≤ B.D p + c := by
  obtain ⟨hm, hp, hq⟩ := h
  obtain ⟨i, j⟩ := q
  have ep := (best_D ok hp).1
  have eq := (best_D ok hq).1
  have hl : B.g.lag i j = true := by rw [lag_in]; exact decide_eq_true hq
  rcases d7.mp hm with ⟨h1, h2, h3, rfl, rfl⟩ | ⟨h1, rfl, rfl⟩ | ⟨h1, rfl, rfl⟩
  · obtain ⟨i, rfl⟩ : ∃ k, i = k + 1 := ⟨i - 1, by omega⟩
    obtain ⟨j, rfl⟩ : ∃ k, j = k + 1 := ⟨j - 1, by omega⟩
    simp only [Nat.add_sub_cancel] at h3 ep ⊢
    rw [bz.best, hl, if_pos rfl] at eq
    have := omin_leL eq (by rw [if_pos (show B.g.same i j = true from h3)]; exact ep)
    omega
  · obtain ⟨i, rfl⟩ : ∃ k, i = k + 1 := ⟨i - 1, by omega⟩
    simp only [Nat.add_sub_cancel] at ep ⊢
    cases j with
    | zero =>
      rw [bz.best, hl, if_pos rfl, ep] at eq
      have : B.D (i, 0) + B.a = B.D (i + 1, 0) := Option.some.inj eq
      omega
    | succ j =>
      rw [bz.best, hl, if_pos rfl] at eq
      rcases hs : gR (rK (B.g.best i (j + 1)) (B.g.drop i)) (rK (B.g.best (i + 1) j) (B.g.put j)) with _ | v
      · have := (omin_no hs).1
        rw [ep] at this; cases this
      · have h4 := omin_leR eq hs
        have h5 := omin_leL hs (u := B.D (i, j + 1) + B.a) (by rw [ep]; rfl)
        omega
  · obtain ⟨j, rfl⟩ : ∃ k, j = k + 1 := ⟨j - 1, by omega⟩
    simp only [Nat.add_sub_cancel] at ep ⊢
    cases i with
    | zero =>
      rw [bz.best, hl, if_pos rfl, ep] at eq
      have : B.D (0, j) + B.b = B.D (0, j + 1) := Option.some.inj eq
      omega
    | succ i =>
      rw [bz.best, hl, if_pos rfl] at eq
      rcases hs : gR (rK (B.g.best i (j + 1)) (B.g.drop i)) (rK (B.g.best (i + 1) j) (B.g.put j)) with _ | v
      · have := (omin_no hs).2
        rw [ep] at this; cases this
      · have h4 := omin_leR eq hs
        have h5 := omin_leR hs (u := B.D (i + 1, j) + B.b) (by rw [ep]; rfl)
        omega
theorem out_none {i j : Nat} {v : Int} (h : B.g.best i j = some v) : B.inB (i, j) := by
  by_cases c : B.inB (i, j)
  · exact c
  · rw [best_out i j c] at h; cases h
theorem D_of {i j : Nat} {v : Int} (h : B.g.best i j = some v) : B.D (i, j) = v := by
  unfold Bw.D
  simp only [h]; rfl
theorem T_some (ok : B.Ok) {q : Cel} (hq : B.inB q) (n0 : q ≠ (0, 0)) : ∃ p, B.T p q := by
  obtain ⟨i, j⟩ := q
  have eq := (best_D ok hq).1
  have hl : B.g.lag i j = true := by rw [lag_in]; exact decide_eq_true hq
  match i, j with
  | 0, 0 => exact absurd rfl n0
  | i + 1, 0 =>
    simp only at eq
    rw [bz.best, hl, if_pos rfl] at eq
    obtain ⟨u, e, hu⟩ := lZ eq
    refine ⟨(i, 0), B.a, ⟨d7.mpr (.inr (.inl ⟨by simp, rfl, rfl⟩)), out_none e, hq⟩, ?_⟩
    rw [D_of e]
    exact hu.symm
  | 0, j + 1 =>
    simp only at eq
    rw [bz.best, hl, if_pos rfl] at eq
    obtain ⟨u, e, hu⟩ := lZ eq
    refine ⟨(0, j), B.b, ⟨d7.mpr (.inr (.inr ⟨by simp, rfl, rfl⟩)), out_none e, hq⟩, ?_⟩
    rw [D_of e]
    exact hu.symm
  | i + 1, j + 1 =>
    simp only at eq
    rw [bz.best, hl, if_pos rfl] at eq
    rcases omin_some eq with h | h
    · split at h
      · rename_i hs
        refine ⟨(i, j), 0, ⟨d7.mpr (.inl ⟨by simp, by simp, hs, rfl, rfl⟩), out_none h, hq⟩, ?_⟩
        rw [D_of h]; omega
      · cases h
    · rcases omin_some h with h | h
      · obtain ⟨u, e, hu⟩ := lZ h
        refine ⟨(i, j + 1), B.a, ⟨d7.mpr (.inr (.inl ⟨by simp, rfl, rfl⟩)), out_none e, hq⟩, ?_⟩
        rw [D_of e]
        exact hu.symm
      · obtain ⟨u, e, hu⟩ := lZ h
        refine ⟨(i + 1, j), B.b, ⟨d7.mpr (.inr (.inr ⟨by simp, rfl, rfl⟩)), out_none e, hq⟩, ?_⟩
        rw [D_of e]
        exact hu.symm
theorem D_right (ok : B.Ok) : ∀ (k i j : Nat), i + j = k → B.inB (i, j) → B.inB (i, j + 1) → B.D (i, j) ≤ B.D (i, j + 1) + B.a := by
  intro k
  induction k with
  | zero =>
    intro i j e h1 h2
    obtain ⟨rfl, rfl⟩ : i = 0 ∧ j = 0 := by omega
    have := (best_D ok h2).2
    have := ok.a
    rw [D_zero]; omega
  | succ k ih =>
    intro i j e h1 h2
    have a1 := ok.a
    have b1 := ok.b
    obtain ⟨⟨x, y⟩, c, ⟨hm, hx, _⟩, hd⟩ := T_some ok h2 (by simp)
    rcases d7.mp hm with ⟨g1, g2, g3, e1, rfl⟩ | ⟨g1, e1, rfl⟩ | ⟨g1, e1, rfl⟩ <;> simp only [Prod.mk.injEq, Nat.add_sub_cancel] at e1 <;> obtain ⟨rfl, rfl⟩ := e1
    · simp only at g1
      obtain ⟨i, rfl⟩ : ∃ z, i = z + 1 := ⟨i - 1, by omega⟩
      simp only [Nat.add_sub_cancel] at hx hd
      have := E_le ok (p := (i, y)) (q := (i + 1, y)) (c := B.a) ⟨d7.mpr (.inr (.inl ⟨by simp, rfl, rfl⟩)), hx, h1⟩
      omega
    · simp only at g1
      obtain ⟨i, rfl⟩ : ∃ z, i = z + 1 := ⟨i - 1, by omega⟩
      simp only [Nat.add_sub_cancel] at hx hd
      have h3 : B.inB (i, j) := by unfold Bw.inB at h1 hx ⊢; simp only at h1 hx ⊢; omega
      have f1 := E_le ok (p := (i, j)) (q := (i + 1, j)) (c := B.a) ⟨d7.mpr (.inr (.inl ⟨by simp, rfl, rfl⟩)), h3, h1⟩
      have f2 := ih i j (by omega) h3 hx
      omega
    · omega
theorem D_down (ok : B.Ok) : ∀ (k i j : Nat), i + j = k → B.inB (i, j) → B.inB (i + 1, j) → B.D (i, j) ≤ B.D (i + 1, j) + B.b := by
  intro k
  induction k with
  | zero =>
    intro i j e h1 h2
    obtain ⟨rfl, rfl⟩ : i = 0 ∧ j = 0 := by omega
    have := (best_D ok h2).2
    have := ok.b
    rw [D_zero]; omega
  | succ k ih =>
    intro i j e h1 h2
    have a1 := ok.a
    have b1 := ok.b
    obtain ⟨⟨x, y⟩, c, ⟨hm, hx, _⟩, hd⟩ := T_some ok h2 (by simp)
    rcases d7.mp hm with ⟨g1, g2, g3, e1, rfl⟩ | ⟨g1, e1, rfl⟩ | ⟨g1, e1, rfl⟩ <;> simp only [Prod.mk.injEq, Nat.add_sub_cancel] at e1 <;> obtain ⟨rfl, rfl⟩ := e1
    · simp only at g2
      obtain ⟨j, rfl⟩ : ∃ z, j = z + 1 := ⟨j - 1, by omega⟩
      simp only [Nat.add_sub_cancel] at hx hd
      have := E_le ok (p := (x, j)) (q := (x, j + 1)) (c := B.b) ⟨d7.mpr (.inr (.inr ⟨by simp, rfl, rfl⟩)), hx, h1⟩
      omega
    · omega
    · simp only at g1
      obtain ⟨j, rfl⟩ : ∃ z, j = z + 1 := ⟨j - 1, by omega⟩
      simp only [Nat.add_sub_cancel] at hx hd
      have h3 : B.inB (i, j) := by unfold Bw.inB at h1 hx ⊢; simp only at h1 hx ⊢; omega
      have f1 := E_le ok (p := (i, j)) (q := (i, j + 1)) (c := B.b) ⟨d7.mpr (.inr (.inr ⟨by simp, rfl, rfl⟩)), h3, h1⟩
      have f2 := ih i j (by omega) h3 hx
      omega
theorem D_diag (ok : B.Ok) {i j : Nat} (h : B.inB (i, j)) : B.D (i, j) ≤ B.D (i + 1, j + 1) := by
  have h2 : B.inB (i + 1, j + 1) := by unfold Bw.inB at h ⊢; simp only at h ⊢; omega
  obtain ⟨⟨x, y⟩, c, ⟨hm, hx, _⟩, hd⟩ := T_some ok h2 (by simp)
  rcases d7.mp hm with ⟨g1, g2, g3, e1, rfl⟩ | ⟨g1, e1, rfl⟩ | ⟨g1, e1, rfl⟩ <;> simp only [Prod.mk.injEq, Nat.add_sub_cancel] at e1 <;> obtain ⟨rfl, rfl⟩ := e1
  · omega
  · have := D_right ok _ _ _ rfl h hx
    omega
  · have := D_down ok _ _ _ rfl h hx
    omega
theorem D_diags (ok : B.Ok) {i j : Nat} (h : B.inB (i, j)) : ∀ k, B.D (i, j) ≤ B.D (i + k, j + k)
  | 0 => Int.le_refl _
  | k + 1 => Int.le_trans (D_diags ok h k) (D_diag ok (by unfold Bw.inB at h ⊢; simp only at h ⊢; omega))
end Y
namespace Y
open PySem PySem.Spec PyProof.Rows L2
def Bw.N (B : Bw) : Nat → Cel → Cel → Prop
  | 0, p, q => p = q ∧ B.inB p
  | t + 1, p, q => ∃ r, B.T p r ∧ B.N t r q
def Bw.Tr (B : Bw) (p q : Cel) : Prop := ∃ t, B.N t p q
variable {B : Bw}
theorem T_in {p q : Cel} (h : B.T p q) : B.inB p ∧ B.inB q := by
  obtain ⟨c, ⟨_, h1, h2⟩, _⟩ := h
  exact ⟨h1, h2⟩
theorem N_in : ∀ {t : Nat} {p q : Cel}, B.N t p q → B.inB p ∧ B.inB q
  | 0, p, q, h => by
    obtain ⟨rfl, h⟩ := h
    exact ⟨h, h⟩
  | t + 1, p, q, ⟨r, h1, h2⟩ => ⟨(T_in h1).1, (N_in h2).2⟩
theorem N_snoc : ∀ {t : Nat} {p q r : Cel}, B.N t p q → B.T q r → B.N (t + 1) p r
  | 0, p, q, r, h, k => by
    obtain ⟨rfl, h⟩ := h
    exact ⟨r, k, rfl, (T_in k).2⟩
  | t + 1, p, q, r, ⟨x, h1, h2⟩, k => ⟨x, h1, N_snoc h2 k⟩
theorem N_last : ∀ {t : Nat} {p r : Cel}, B.N (t + 1) p r → ∃ q, B.N t p q ∧ B.T q r
  | 0, p, r, ⟨x, h1, h2⟩ => by
    obtain ⟨rfl, _⟩ := h2
    exact ⟨p, ⟨rfl, (T_in h1).1⟩, h1⟩
  | t + 1, p, r, ⟨x, h1, h2⟩ => by
    obtain ⟨q, h3, h4⟩ := N_last h2
    exact ⟨q, ⟨x, h1, h3⟩, h4⟩
theorem T_cnt {p q : Cel} (h : B.T p q) : (q = (p.1 + 1, p.2 + 1) ∧ B.D q = B.D p) ∨ (q = (p.1 + 1, p.2) ∧ B.D q = B.D p + B.a) ∨ (q = (p.1, p.2 + 1) ∧ B.D q = B.D p + B.b) := by
  obtain ⟨c, ⟨hm, _, _⟩, hd⟩ := h
  obtain ⟨i, j⟩ := q
  rcases d7.mp hm with ⟨h1, h2, h3, rfl, rfl⟩ | ⟨h1, rfl, rfl⟩ | ⟨h1, rfl, rfl⟩
  · exact .inl ⟨Prod.ext (by simp only; simp only at h1; omega) (by simp only; simp only at h2; omega), by omega⟩
  · exact .inr (.inl ⟨Prod.ext (by simp only; simp only at h1; omega) rfl, hd.symm⟩)
  · exact .inr (.inr ⟨Prod.ext rfl (by simp only; simp only at h1; omega), hd.symm⟩)
theorem N_cnt : ∀ {t : Nat} {p q : Cel}, B.N t p q → ∃ x y z : Nat, t = x + y + z ∧ q.1 = p.1 + z + x ∧ q.2 = p.2 + z + y ∧ B.D q = B.D p + B.a * x + B.b * y
  | 0, p, q, h => by
    obtain ⟨rfl, _⟩ := h
    exact ⟨0, 0, 0, rfl, rfl, rfl, by simp⟩
  | t + 1, p, q, ⟨r, h1, h2⟩ => by
    obtain ⟨x, y, z, e1, e2, e3, e4⟩ := N_cnt h2
    rcases T_cnt h1 with ⟨rfl, e⟩ | ⟨rfl, e⟩ | ⟨rfl, e⟩
    · exact ⟨x, y, z + 1, by omega, by simp only at e2; omega, by simp only at e3; omega, by omega⟩
    · refine ⟨x + 1, y, z, by omega, by simp only at e2; omega, by simp only at e3; omega, ?_⟩
      rw [e4, e]; push_cast; rw [Int.mul_add]; omega
    · refine ⟨x, y + 1, z, by omega, by simp only at e2; omega, by simp only at e3; omega, ?_⟩
      rw [e4, e]; push_cast; rw [Int.mul_add]; omega
theorem N_le {t : Nat} {p q : Cel} (h : B.N t p q) : p.1 ≤ q.1 ∧ p.2 ≤ q.2 ∧ t ≤ q.1 + q.2 := by
  obtain ⟨x, y, z, e1, e2, e3, _⟩ := N_cnt h
  omega
theorem N_diag (ok : B.Ok) {t t' : Nat} {p q S : Cel} {k : Nat} (h : B.N t p S) (h' : B.N t' q S) (e1 : q.1 = p.1 + k) (e2 : q.2 = p.2 + k) (ht : t = t' ∨ k = 0) : k = 0 ∧ t = t' := by
  have dg := D_diags ok (i := p.1) (j := p.2) (N_in h).1 k
  rw [← e1, ← e2] at dg
  have dg : B.D p ≤ B.D q := dg
  have a1 := ok.a
  have b1 := ok.b
  obtain ⟨x, y, z, f1, f2, f3, f4⟩ := N_cnt h
  obtain ⟨x', y', z', g1, g2, g3, g4⟩ := N_cnt h'
  rcases ht with ht | ht
  · subst ht
    have ex : x' = x + k := by omega
    have ey : y' = y + k := by omega
    subst ex; subst ey
    rw [f4] at g4
    push_cast at g4
    rw [Int.mul_add, Int.mul_add] at g4
    have m1 : (k : Int) ≤ B.a * k := by
      have := Int.mul_le_mul_of_nonneg_right a1.1 (show (0 : Int) ≤ k by omega)
      omega
    have m2 : (k : Int) ≤ B.b * k := by
      have := Int.mul_le_mul_of_nonneg_right b1.1 (show (0 : Int) ≤ k by omega)
      omega
    exact ⟨by omega, rfl⟩
  · subst ht
    refine ⟨rfl, ?_⟩
    have ep : q = p := Prod.ext (by omega) (by omega)
    subst ep
    rw [f4] at g4
    rcases Nat.lt_trichotomy x x' with c | c | c
    · obtain ⟨d, rfl⟩ : ∃ d, x' = x + d := ⟨x' - x, by omega⟩
      have ey : y' = y + d := by omega
      subst ey
      push_cast at g4
      rw [Int.mul_add, Int.mul_add] at g4
      have m1 : (d : Int) ≤ B.a * d := by
        have := Int.mul_le_mul_of_nonneg_right a1.1 (show (0 : Int) ≤ d by omega)
        omega
      have m2 : (d : Int) ≤ B.b * d := by
        have := Int.mul_le_mul_of_nonneg_right b1.1 (show (0 : Int) ≤ d by omega)
        omega
      omega
    · omega
    · obtain ⟨d, rfl⟩ : ∃ d, x = x' + d := ⟨x - x', by omega⟩
      have ey : y = y' + d := by omega
      subst ey
      push_cast at g4
      rw [Int.mul_add, Int.mul_add] at g4
      have m1 : (d : Int) ≤ B.a * d := by
        have := Int.mul_le_mul_of_nonneg_right a1.1 (show (0 : Int) ≤ d by omega)
        omega
      have m2 : (d : Int) ≤ B.b * d := by
        have := Int.mul_le_mul_of_nonneg_right b1.1 (show (0 : Int) ≤ d by omega)
        omega
      omega
theorem N_depth (ok : B.Ok) {t t' : Nat} {p S : Cel} (h : B.N t p S) (h' : B.N t' p S) : t = t' := (N_diag ok h h' (k := 0) rfl rfl (.inr rfl)).2
theorem N_one (ok : B.Ok) {t : Nat} {p q S : Cel} (h : B.N t p S) (h' : B.N t q S) (e : p.1 + q.2 = q.1 + p.2) : p = q := by
  rcases Nat.le_total p.1 q.1 with c | c
  · have := (N_diag ok h h' (k := q.1 - p.1) (by omega) (by omega) (.inl rfl)).1
    exact Prod.ext (by omega) (by omega)
  · have := (N_diag ok h' h (k := p.1 - q.1) (by omega) (by omega) (.inl rfl)).1
    exact Prod.ext (by omega) (by omega)
theorem front_len (ok : B.Ok) {t : Nat} {S : Cel} {l : List Cel} (nd : l.Nodup) (h : ∀ p ∈ l, B.N t p S) : l.length ≤ 5 := by
  have l2 := ok.l.2
  have nd2 : (l.map fun p : Cel => p.1 + 2 - p.2).Nodup := by
    unfold List.Nodup
    rw [List.pairwise_map]
    refine List.Pairwise.imp_of_mem (fun {p q} hp hq ne e => ne ?_) nd
    have ip := (N_in (h p hp)).1
    have iq := (N_in (h q hq)).1
    unfold Bw.inB at ip iq
    exact N_one ok (h p hp) (h q hq) (by omega)
  have := nd2.length_le_of_subset (l₂ := List.range 5) fun x hx => by
    obtain ⟨p, hp, rfl⟩ := List.mem_map.mp hx
    have ip := (N_in (h p hp)).1
    unfold Bw.inB at ip
    rw [List.mem_range]
    omega
  simpa using this
theorem Tr_last {p S : Cel} : B.Tr p S ↔ (p = S ∧ B.inB p) ∨ ∃ q, B.Tr p q ∧ B.T q S := by
  constructor
  · rintro ⟨t, h⟩
    cases t with
    | zero => exact .inl h
    | succ t =>
      obtain ⟨q, h1, h2⟩ := N_last h
      exact .inr ⟨q, ⟨t, h1⟩, h2⟩
  · rintro (h | ⟨q, ⟨t, h1⟩, h2⟩)
    · exact ⟨0, h⟩
    · exact ⟨t + 1, N_snoc h1 h2⟩
theorem Tr_in {p S : Cel} (h : B.Tr p S) : B.inB p ∧ B.inB S ∧ p.1 ≤ S.1 ∧ p.2 ≤ S.2 := by
  obtain ⟨t, h⟩ := h
  exact ⟨(N_in h).1, (N_in h).2, (N_le h).1, (N_le h).2.1⟩
theorem Tr_zero (ok : B.Ok) : ∀ (k : Nat) (S : Cel), S.1 + S.2 ≤ k → B.inB S → B.Tr (0, 0) S := by
  intro k
  induction k with
  | zero =>
    intro S e h
    exact ⟨0, Prod.ext (by simp only; omega) (by simp only; omega), by unfold Bw.inB; simp⟩
  | succ k ih =>
    intro S e h
    by_cases z : S = (0, 0)
    · subst z
      exact ⟨0, rfl, h⟩
    · obtain ⟨q, hq⟩ := T_some ok h z
      refine Tr_last.mpr (.inr ⟨q, ih q ?_ (T_in hq).1, hq⟩)
      rcases T_cnt hq with ⟨rfl, _⟩ | ⟨rfl, _⟩ | ⟨rfl, _⟩ <;> simp only at e <;> omega
def Bw.Fix (B : Bw) (t b : Nat) : Prop := ∃ p : Cel, max p.1 p.2 = b ∧ B.inB p ∧ ∀ q : Cel, max q.1 q.2 = t → B.inB q → B.Tr p q
def Bw.WaitOf (B : Bw) (t k : Nat) : Prop := ∃ b, k = t - b ∧ b ≤ t ∧ B.Fix t b ∧ ∀ b', B.Fix t b' → b' ≤ b
theorem Fix_zero (ok : B.Ok) (t : Nat) : B.Fix t 0 := ⟨(0, 0), rfl, by unfold Bw.inB; simp, fun q _ hq => Tr_zero ok _ q (Nat.le_refl _) hq⟩
theorem Fix_le {t b : Nat} (h : B.Fix t b) : b ≤ t := by
  obtain ⟨p, rfl, _, h⟩ := h
  have := Tr_in (h (t, t) (by simp) (by unfold Bw.inB; simp only; omega))
  simp only at this
  omega
theorem WaitOf.one {t k k' : Nat} (h : B.WaitOf t k) (h' : B.WaitOf t k') : k = k' := by
  obtain ⟨b, rfl, _, f, m⟩ := h
  obtain ⟨b', rfl, _, f', m'⟩ := h'
  have := m b' f'
  have := m' b f
  omega
def rimC (lam t : Nat) : List Cel := ((List.range' (t - lam) (t + 1 - (t - lam))).map fun i => (i, t)) ++ ((List.range (t - (t - lam))).map fun k => (t, t - 1 - k))
theorem rimC_mem {t : Nat} {p : Cel} : p ∈ rimC B.lam t ↔ max p.1 p.2 = t ∧ B.inB p := by
  obtain ⟨i, j⟩ := p
  unfold rimC Bw.inB
  rw [List.mem_append, List.mem_map, List.mem_map]
  simp only
  constructor
  · rintro (⟨k, hk, e⟩ | ⟨k, hk, e⟩)
    · rw [List.mem_range'_1] at hk
      cases e
      omega
    · rw [List.mem_range] at hk
      cases e
      omega
  · rintro ⟨h1, h2, h3⟩
    by_cases c : j = t
    · exact .inl ⟨i, by rw [List.mem_range'_1]; omega, by rw [c]⟩
    · exact .inr ⟨t - 1 - j, by rw [List.mem_range]; omega, Prod.ext (by simp only; omega) (by simp only; omega)⟩
theorem rimC_len (lam t : Nat) (h : lam ≤ 2) : (rimC lam t).length ≤ 5 := by
  unfold rimC
  simp
  omega
theorem qZ {g g' : bz} {n m : Nat} (hs : ∀ i j, i < n → j < m → g.same i j = g'.same i j) (hd : ∀ i, i < n → g.drop i = g'.drop i) (hp : ∀ j, j < m → g.put j = g'.put j) (hl : ∀ i j, g.lag i j = g'.lag i j) : ∀ i j, i ≤ n → j ≤ m → g.best i j = g'.best i j
  | 0, 0, _, _ => by rw [bz.best, bz.best]
  | i + 1, 0, hi, hj => by rw [bz.best, bz.best, hl, hd i hi, qZ hs hd hp hl i 0 (by omega) hj]
  | 0, j + 1, hi, hj => by rw [bz.best, bz.best, hl, hp j hj, qZ hs hd hp hl 0 j hi (by omega)]
  | i + 1, j + 1, hi, hj => by rw [bz.best, bz.best, hl, hd i hi, hp j hj, hs i j hi hj, qZ hs hd hp hl i j (by omega) (by omega), qZ hs hd hp hl i (j + 1) (by omega) hj, qZ hs hd hp hl (i + 1) j hi (by omega)]
end Y
namespace Y
open PySem PySem.Spec PyProof.Rows L2
def bz.rest (g : bz) (n m i j : Nat) : Option Int :=
  if g.lag i j = true then
    gR (if i = n ∧ j = m then some 0 else none)
      (gR (if _h : i < n ∧ j < m then (if g.same i j = true then g.rest n m (i + 1) (j + 1) else none) else none)
        (gR (if _h : i < n then rK (g.rest n m (i + 1) j) (g.drop i) else none) (if _h : j < m then rK (g.rest n m i (j + 1)) (g.put j) else none)))
  else none
  termination_by (n - i) + (m - j)
abbrev Wd.rest (w : Wd) : Tbl := w.g.rest w.n w.m
theorem loop_on {α : Type} (f : α → EV) {g : EH → Prop} {p : Pat} {tb : LS} {D : LEnds} (xs : List α) (I : List α → List α → En → EH → Prop)
    (stop : ∀ env h, I xs [] env h → g h ∧ D.nx env h)
    (turn : ∀ a x b env h (k : En → EH → Prop), xs = a ++ x :: b → I a (x :: b) env h → (∀ env' h', I (a ++ [x]) b env' h' → k env' h') → g h ∧ cH h p (f x) env fun env2 => tb { D with nx := k, ct := k, bk := D.nx } env2 h) :
    ∀ env h, I [] xs env h → loopE g p tb D (xs.map f) env h := by
  intro env h i0
  refine pD (fun left env h => ∃ a b, xs = a ++ b ∧ left = b.map f ∧ I a b env h) ?_ ?_ _ _ _ ⟨[], xs, rfl, rfl, i0⟩
  · rintro env h ⟨a, b, e, el, i⟩
    obtain rfl : b = [] := by simpa using el.symm
    rw [List.append_nil] at e
    subst e
    exact stop env h i
  · rintro x left env h k ⟨a, b, e, el, i⟩ hk
    obtain ⟨y, b, rfl⟩ : ∃ c r, b = c :: r := by
      cases b with
      | nil => simp at el
      | cons c r => exact ⟨c, r, rfl⟩
    rw [List.map_cons, List.cons.injEq] at el
    obtain ⟨rfl, rfl⟩ := el
    exact turn a y b env h k e i fun env' h' i' => hk env' h' ⟨_, _, by rw [e]; simp, rfl, i'⟩
theorem jO {α : Type} (f : α → EV) (y : α → Option EV) {g : EH → Prop} {p : Pat} {tt : LTt} {te : LT} {env : En} {P : EK} {h : EH} (xs : List α) (hl : xs.length ≤ 1000000) (hg : ∀ h', aH no1 h h' → g h')
    (step : ∀ x ∈ xs, ∀ h' (ky : EK) (kn : EH → Prop), aH no1 h h' → (∀ v, y x = some v → ∀ h2, aH no1 h' h2 → ky v h2) → (y x = none → ∀ h2, aH no1 h' h2 → kn h2) → cH h' p (f x) env fun env2 => tt env2 h' fun b h3 => if b = true then te env2 h3 ky else kn h3)
    (fin : ∀ h', aH no1 h h' → h'[h.length]? = some (.lst (xs.filterMap y)) → P (.ref h.length) h') : lcE g p tt te h.length env P (xs.map f) (h ++ [.lst []]) := by
  refine lc_ind (fun left acc h' => ∃ a b, xs = a ++ b ∧ left = b.map f ∧ acc = a.filterMap y ∧ aH no1 h h') ?_ ?_ _ _ _ bf ⟨[], xs, rfl, rfl, rfl, aH.app _⟩
  · rintro acc h' ⟨a, b, e, el, rfl, k⟩ ea
    obtain rfl : b = [] := by simpa using el.symm
    rw [List.append_nil] at e
    subst e
    exact ⟨hg _ k, fin _ k ea⟩
  · rintro x left acc h' ky kn ⟨a, b, e, el, rfl, k⟩ ea hy hn
    obtain ⟨z, b, rfl⟩ : ∃ c r, b = c :: r := by
      cases b with
      | nil => simp at el
      | cons c r => exact ⟨c, r, rfl⟩
    rw [List.map_cons, List.cons.injEq] at el
    obtain ⟨rfl, rfl⟩ := el
    refine ⟨hg _ k, step z (by rw [e]; simp) h' ky kn k (fun v hv h2 k2 => ?_) fun hv h2 k2 => ?_⟩
    · refine hy v h2 (k2.at ea) ?_ ⟨a ++ [z], b, by rw [e]; simp, rfl, by simp [hv], (k.trans k2).fresh (Nat.le_refl _)⟩
      have := List.length_filterMap_le y a
      have hx : xs.length = a.length + (b.length + 1) := by rw [e]; simp
      have sz : sizeLine = 16777216 := by decide
      omega
    · exact hn h2 (k2.at ea) ⟨a ++ [z], b, by rw [e]; simp, rfl, by simp [hv], k.trans k2⟩
theorem alike_ok {ad : Ad} {v w : EV} {d : PyData} {n k : Nat} {h : EH} {Q : EK} (a : DS h n k v d) (b : DS h n k w d) (hn : n ≤ 60) (hk : k ≤ 2 ^ 20) (q : Q (.bl true) h) : dZ ad [v, w] h Q := ⟨v, w, d, rfl, Dat.deep a.1 hn, Dat.deep b.1 hn, (a.fits hk).1, (a.fits hk).2, q⟩
def WorldAt (h : EH) (W : Nat) (v : EV) : Prop := ∃ (q : Nat) (l r : List Int) (t : Nat) (c : Tab) (p : Prom), v = .ref q ∧ W < q ∧ h[q]? = some (.lst [tx l, tx r, .ref t, p.e]) ∧ h[t]? = some (.dic (dU c)) ∧ TabOk c ∧ c.length ≤ 40 ∧ l.length ≤ 9 ∧ r.length ≤ 9 ∧ PromNN p
structure Pk (h0 : EH) (b W L : Nat) (ns : List Int) (h : EH) (ws : List EV) : Prop where
  k : aH (is1 b) h0 h
  B : cX h b
  w : h[W]? = some (.lst ws)
  a : ∀ v ∈ ws, WorldAt h W v
  l : h[L]? = some (.lst (ns.map EV.int))
theorem keyL_pt (i j : Nat) : keyL (ptE i j) = some [.inl (i : Int), .inl (j : Int)] := rfl
theorem keyL_pt_inj {i j a b : Nat} (h : keyL (ptE i j) = keyL (ptE a b)) : i = a ∧ j = b := by
  rw [keyL_pt, keyL_pt] at h
  simp only [Option.some.injEq, List.cons.injEq, Sum.inl.injEq] at h
  omega
theorem rangeL_nat (n : Nat) : eZ 0 n = (List.range' 0 n).map fun (k : Nat) => EV.int k := by
  unfold eZ
  rw [List.range_eq_range']
  refine List.map_congr_left fun k _ => ?_
  rw [Int.zero_add]
theorem loop_nat {g : EH → Prop} {p : Pat} {tb : LS} {D : LEnds} (n : Nat) (I : Nat → En → EH → Prop)
    (stop : ∀ env h, I n env h → g h ∧ D.nx env h)
    (turn : ∀ i env h (k : En → EH → Prop), i < n → I i env h → (∀ env' h', I (i + 1) env' h' → k env' h') → g h ∧ cH h p (.int (i : Nat)) env fun env2 => tb { D with nx := k, ct := k, bk := D.nx } env2 h) :
    ∀ env h, I 0 env h → loopE g p tb D (eZ 0 n) env h := by
  intro env h i0
  rw [rangeL_nat]
  refine pD (fun left env h => ∃ i : Nat, i ≤ n ∧ left = (List.range' i (n - i)).map (fun (k : Nat) => EV.int k) ∧ I i env h) ?_ ?_ _ _ _ ⟨0, Nat.zero_le _, rfl, i0⟩
  · rintro env h ⟨i, hi, el, z⟩
    have : i = n := by
      have := congrArg List.length el
      simp at this
      omega
    subst this
    exact stop env h z
  · rintro x left env h k ⟨i, hi, el, z⟩ hk
    have hi2 : i < n := by
      have := congrArg List.length el
      simp at this
      omega
    rw [show n - i = (n - i - 1) + 1 by omega, List.range'_succ, List.map_cons, List.cons.injEq] at el
    obtain ⟨rfl, rfl⟩ := el
    exact turn i env h k hi2 z fun env' h' z' => hk env' h' ⟨i + 1, hi2, by rw [show n - (i + 1) = n - i - 1 by omega], z'⟩
section
variable {w : Wd} {c : Tab} (hc : ∀ x, cost c x = cost w.c x)
include hc
end
end Y
namespace Y
open PySem PySem.Spec PyProof.Rows L2
mutual
inductive DatB (b : Nat) (h : EH) : Nat → EV → PyData → Prop
  | non {n : Nat} : DatB b h n .non .none
  | bl {n : Nat} (x : Bool) : DatB b h n (.bl x) (.bool x)
  | int {n : Nat} (i : Int) : DatB b h n (.int i) (.int i)
  | str {n : Nat} (s : List Nat) : DatB b h n (.str s) (.str (S s))
  | tup {n : Nat} {xs : List EV} {ds : List PyData} : DatsB b h n xs ds → DatB b h (n + 1) (.tup xs) (.tuple ds)
  | lst {n : Nat} {r : Nat} {xs : List EV} {ds : List PyData} : b < r → h[r]? = some (.lst xs) → DatsB b h n xs ds → DatB b h (n + 1) (.ref r) (.list ds)
inductive DatsB (b : Nat) (h : EH) : Nat → List EV → List PyData → Prop
  | nil {n : Nat} : DatsB b h n [] []
  | cons {n : Nat} {x : EV} {xs : List EV} {d : PyData} {ds : List PyData} : DatB b h n x d → DatsB b h n xs ds → DatsB b h n (x :: xs) (d :: ds)
end
section
variable {b : Nat} {h h' : EH} {n k j : Nat}
end
end Y
namespace Y
open PySem PySem.Spec PyProof.Rows L2
theorem d9.get {h : EH} {b t r n m x y : Nat} {R : Tbl} {P : EK} (z : d9 h b t r n m R) (hx : x ≤ n) (hy : y ≤ m) (p : P (optE (R x y)) h) : ixA (.ref r) (.int x) h fun v h1 => ixA v (.int y) h1 P := by
  obtain ⟨q, xs, e, a, _, _, _, er⟩ := z.row hx
  exact ia_l e ((lO _ _).trans a) (ia_l er ((lO _ _).trans (rowE_at hy)) p)
abbrev LKV := List (Nat × Int)
def lk (l : LKV) (i : Nat) : Option Int := l.lookup i
def ins1 (acc : List Int) (x : Int) : List Int := if x ∈ acc then acc else acc ++ [x]
def nub (ls : List Int) : List Int := ls.foldl ins1 []
def uni (p : Int × Int) (ks : List Int) : Tab := ks.map fun x => (x, p)
theorem uni_get (p : Int × Int) (x : Int) : ∀ ks : List Int, qF (dU (uni p ks)) (.int x) = if x ∈ ks then some (pairE p) else none
  | [] => rfl
  | k :: ks => by
    have ih := uni_get p x ks
    show (if kEq (.int k) (.int x) = true then some (pairE p) else qF (dU (uni p ks)) (.int x)) = _
    rw [ih]
    by_cases h : k = x
    · subst h; simp [kEq]
    · have : ¬ x = k := fun e => h e.symm
      simp [kEq, h, this]
theorem uni_put (p : Int × Int) (acc : List Int) (x : Int) : dPut (dU (uni p acc)) (.int x) (pairE p) = dU (uni p (ins1 acc x)) := by
  unfold dPut dHas
  rw [uni_get]
  unfold ins1
  by_cases h : x ∈ acc
  · rw [if_pos h, if_pos h]
    simp only [Option.isSome_some, if_true, dRep, dU, uni, List.map_map]
    refine List.map_congr_left fun y hy => ?_
    simp only [Function.comp]
    split <;> rfl
  · rw [if_neg h, if_neg h]
    simp [dU, uni]
theorem nub_foldl_mem (ls : List Int) : ∀ acc : List Int, ∀ x, x ∈ ls.foldl ins1 acc ↔ x ∈ acc ∨ x ∈ ls := by
  induction ls with
  | nil => intro acc x; simp
  | cons y ls ih =>
    intro acc x
    rw [List.foldl_cons, ih]
    unfold ins1
    split
    · rename_i h
      constructor
      · rintro (a | a)
        · exact .inl a
        · exact .inr (by simp [a])
      · rintro (a | a)
        · exact .inl a
        · rcases List.mem_cons.mp a with rfl | a
          · exact .inl h
          · exact .inr a
    · simp [or_assoc]
theorem nub_mem {ls : List Int} {x : Int} : x ∈ nub ls ↔ x ∈ ls := by
  unfold nub; rw [nub_foldl_mem]; simp
theorem nub_foldl_nd (ls : List Int) : ∀ acc : List Int, acc.Nodup → (ls.foldl ins1 acc).Nodup := by
  induction ls with
  | nil => intro acc h; exact h
  | cons y ls ih =>
    intro acc h
    rw [List.foldl_cons]
    refine ih _ ?_
    unfold ins1
    split
    · exact h
    · rename_i hy
      rw [List.nodup_append]
      exact ⟨h, by simp, by intro a ha b hb; simp at hb; subst hb; exact fun e => hy (e ▸ ha)⟩
theorem nub_nd (ls : List Int) : (nub ls).Nodup := nub_foldl_nd ls [] (by simp)
theorem nub_len {ls A : List Int} (h : ∀ x ∈ ls, x ∈ A) : (nub ls).length ≤ A.length :=
  (nub_nd ls).length_le_of_subset fun x hx => h x (nub_mem.mp hx)
theorem uni_ok {p : Int × Int} {ks : List Int} (nd : ks.Nodup) (rg : ∀ x ∈ ks, 0 ≤ x ∧ x ≤ 1000000000) (h1 : 1 ≤ p.1 ∧ p.1 ≤ 9) (h2 : 1 ≤ p.2 ∧ p.2 ≤ 9) : TabOk (uni p ks) := by
  refine ⟨by unfold uni; rw [List.map_map]; simpa [Function.comp_def] using nd, fun q hq => ?_⟩
  obtain ⟨x, hx, rfl⟩ := List.mem_map.mp hq
  exact ⟨rg x hx, h1, h2⟩
theorem uni_cost {p : Int × Int} {ks : List Int} {x : Int} (h : x ∈ ks) : cost (uni p ks) x = p := by
  unfold cost uni
  induction ks with
  | nil => cases h
  | cons k ks ih =>
    rw [List.map_cons, List.lookup_cons]
    by_cases e : x = k
    · subst e; simp
    · rw [show (x == k) = false by simpa using e]
      exact ih ((List.mem_cons.mp h).resolve_left e)
theorem dc_uni {g : EH → Prop} {pt : Pat} {tk tv : LT} {env : En} {P : EK} {h : EH} (p : Int × Int) (ls : List Int) (hl : ls.length ≤ 1000000) (hg : ∀ acc, g (h ++ [.dic acc]))
    (step : ∀ x ∈ ls, ∀ acc (ky : EV → EV → EH → Prop), ky (.int x) (pairE p) (h ++ [.dic acc]) → cH (h ++ [.dic acc]) pt (.int x) env fun env2 => tk env2 (h ++ [.dic acc]) fun y h4 => tv env2 h4 fun z h5 => ky y z h5)
    (fin : P (.ref h.length) (h ++ [.dic (dU (uni p (nub ls)))])) : dcE g pt cY tk tv h.length env P (ls.map EV.int) (h ++ [.dic []]) := by
  have key : ∀ (ys acc : List Int), (∀ x ∈ ys, x ∈ ls) → acc.length + ys.length ≤ ls.length → ys.foldl ins1 acc = nub ls → dcE g pt cY tk tv h.length env P (ys.map EV.int) (h ++ [.dic (dU (uni p acc))]) := by
    intro ys
    induction ys with
    | nil =>
      intro acc _ _ e
      show dcE _ _ _ _ _ _ _ _ [] _
      rw [dcE]
      rw [List.foldl_nil] at e
      exact ⟨hg _, by rw [e]; exact fin⟩
    | cons x ys ih =>
      intro acc hm hz e
      show dcE _ _ _ _ _ _ _ _ (EV.int x :: ys.map EV.int) _
      rw [dcE]
      simp only [List.length_cons] at hz
      refine ⟨hg _, ?_⟩
      refine step x (hm x (by simp)) (dU (uni p acc)) (fun y z h5 => match h5[h.length]? with
        | some (.dic kvs) => isKey y ∧ kvs.length < sizeLine ∧ dcE g pt cY tk tv h.length env P (ys.map EV.int) (h5.set h.length (.dic (dPut kvs y z)))
        | _ => False) ?_
      · simp only [bf, qP]
        refine ⟨trivial, by rw [bG]; simp [dU, uni]; omega, ?_⟩
        rw [uni_put]
        refine ih _ (fun z hz' => hm z (List.mem_cons_of_mem _ hz')) ?_ e
        unfold ins1
        split <;> (try simp) <;> omega
  exact key ls [] (fun _ h => h) (by simp) rfl
structure PrOk (p : Int × Int) : Prop where
  a1 : 1 ≤ p.1
  a9 : p.1 ≤ 9
  b1 : 1 ≤ p.2
  b9 : p.2 ≤ 9
structure LsOk (ls : List Int) : Prop where
  ln : ls.length ≤ 2000
  rg : ∀ x ∈ ls, 0 ≤ x ∧ x ≤ 1000000000
  nb : (nub ls).length < 64
theorem LsOk.tab {ls : List Int} (z : LsOk ls) {p : Int × Int} (pk : PrOk p) : TabOk (uni p (nub ls)) :=
  uni_ok (nub_nd ls) (fun x hx => z.rg x (nub_mem.mp hx)) ⟨pk.a1, pk.a9⟩ ⟨pk.b1, pk.b9⟩
theorem uni_len (p : Int × Int) (ks : List Int) : (uni p ks).length = ks.length := by simp [uni]
def uniW (p : Int × Int) (g : Prom) (l r : List Int) : Wd := ⟨l, r, rB (uni p (nub (l ++ r))), g⟩
theorem make_new {ad : Ad} {h h2 : EH} {d : Nat} {c : Tab} {P : EK} (k0 : aH no1 h h2) (e : h2[d]? = some (.dic (dU c))) (ok : TabOk c) (tl : c.length < 64)
    (q : ∀ r h', aH no1 h h' → h.length ≤ r → PrAt ad h' r (rB c) → P (.ref r) h') : eX ad [.ref h2.length, .ref d] (h2 ++ [.slo ad.a_Prices []]) fun v h3 => v = .non ∧ P (.ref h2.length) h3 := by
  have l0 := k0.1
  refine ⟨_, _, c, rfl, bf, dF e _, ok, tl, fun h' k p => ⟨rfl, q _ _ ?_ (by omega) p⟩⟩
  have ka : aH no1 h (h2 ++ [.slo ad.a_Prices []]) := k0.trans (aH.app _)
  refine ⟨Nat.le_trans ka.1 k.1, fun r o ho _ => k.2 r o (ka.at ho) ?_⟩
  have := cC ho
  simp [is1]
  omega
theorem keep_new {h h1 h2 : EH} {r : Nat} (k0 : aH no1 h h1) (k : aH (is1 r) h1 h2) (hr : h.length ≤ r) : aH no1 h h2 := by
  refine ⟨Nat.le_trans k0.1 k.1, fun i o ho _ => k.2 i o (k0.at ho) ?_⟩
  have := cC ho
  simp [is1]
  omega
theorem uniW_cost {p : Int × Int} {g : Prom} {l r : List Int} {x : Int} (h : x ∈ l ++ r) : cost (uniW p g l r).c x = p := by
  show cost (rB (uni p (nub (l ++ r)))) x = p
  rw [prTab_cost (by unfold uni; rw [List.map_map]; simpa [Function.comp_def] using nub_nd (l ++ r))]
  exact uni_cost (nub_mem.mpr h)
def restVR (p : Int × Int) (l r : List Int) (i j : Nat) : Int := ((uniW p .none l r).rest i j).getD 0
def v1 (n m i j : Nat) : List Int := if decide (i = n) && decide (j = m) then [0] else []
def v2 (p : Int × Int) (l r : List Int) (i j : Nat) : List Int := if (decide (i < l.length) && (decide (j < r.length) && decide (l.getD i 0 = r.getD j 0))) = true then [restVR p l r (i + 1) (j + 1)] else []
theorem one_new {ad : Ad} {h : EH} {b : Nat} {xs : List EV} {P : EK} (B : cX h b) (ne : xs ≠ []) (hl : xs.length ≤ 1000) (p : ∀ x h', x ∈ xs → aH (is1 b) h h' → cX h' b → P x h') : dX ad [.ref b, .ref h.length] (h ++ [.lst xs]) P :=
  ⟨b, h.length, xs, rfl, bf, ne, by rw [bG]; omega, by have := B.lt; omega, B.keep (aH.app _), fun x h' hx k B' => p x h' hx ((aH.app _).trans k) B'⟩
theorem take_n {ad : Ad} {h : EH} {b : Nat} (n : Nat) {m : Int} {P : EK} (B : cX h b) (e : m = (n : Nat)) (h0 : 0 < n) (h1 : n < 1000000) (p : ∀ (d : Nat) h', d < n → aH (is1 b) h h' → cX h' b → P (.int d) h') : aP ad [.ref b, .int m] h P := by
  refine ⟨b, m, rfl, by omega, by omega, B, fun d h' d0 d1 k B' => ?_⟩
  obtain ⟨d, rfl⟩ := Int.eq_ofNat_of_zero_le d0
  exact p d h' (by omega) k B'
def jo (ad : Ad) : LSp := fun evs h Q => ∃ b, evs = [.ref b] ∧ cX h b ∧ ∀ (p : Int × Int) h', PrOk p → p.1 ≤ 3 → p.2 ≤ 3 → aH (is1 b) h h' → cX h' b → Q (pairE p) h'
abbrev N__law_pair : List Str := ["_law_bag_here"]
def t__law_pair (ad : Ad) : LS :=
    aW (aY (aa (lOp bJ (lC (.int 1)) (aA (dX ad) (aa (ao 0) (aa (bR (aa (lC (.int 0)) (aa (lC (.int 0)) (aa (lC (.int 1)) (aa (lC (.int 2)) (aq)))))) (aq))))) (aa (lOp bJ (lC (.int 1)) (aA (dX ad) (aa (ao 0) (aa (bR (aa (lC (.int 0)) (aa (lC (.int 0)) (aa (lC (.int 1)) (aa (lC (.int 2)) (aq)))))) (aq))))) (aq))))
theorem len__law_pair (ad : Ad) (evs : List EV) (h : EH) (Q : EK) (q : jo ad evs h Q) : evs.length = ["_law_bag_here"].length := by
  obtain ⟨_, rfl, _⟩ := q; rfl
theorem pure__law_pair (ad : Ad) (evs : List EV) (h : EH) (Q : EK) (q : jo ad evs h Q) : t__law_pair ad (aM Q) (bF N__law_pair evs) h := by
  obtain ⟨b, rfl, B, q⟩ := q
  show t__law_pair ad (aM Q) [some (.ref b)] h
  unfold t__law_pair
  simp only [aU, aW, cQ, bh, lOp, ao, lC, lB, lT, cV, lOr, dB, lIf, bV, fK, cO, aq, aa, aY, bR, lCB, lBM, lSl, aJ, aV, lIt, bx, bD, di, fQ, cR, bu, cG, lLc, fV, fL, aA, bA, gZ, gS, sZ, sS, aZ, cZ, dG]
  have i012 : ∀ {x : EV}, x ∈ [EV.int 0, .int 0, .int 1, .int 2] → ∃ n : Int, x = .int n ∧ 0 ≤ n ∧ n ≤ 2 := fun {x} hx => by
    simp only [List.mem_cons, List.not_mem_nil, or_false] at hx
    rcases hx with rfl | rfl | rfl | rfl <;> exact ⟨_, rfl, by decide, by decide⟩
  refine ⟨by simp [bG], one_new B (by simp) (by simp) fun x h1 hx k1 B1 => ?_⟩
  obtain ⟨n, rfl, n0, n2⟩ := i012 hx
  simp only [bJ, cZ]
  refine ⟨by simp [bG], one_new B1 (by simp) (by simp) fun x h2 hx2 k2 B2 => ?_⟩
  obtain ⟨m, rfl, m0, m2⟩ := i012 hx2
  simp only [bJ, cZ]
  refine ⟨by simp [bG], ?_⟩
  exact q (1 + n, 1 + m) h2 ⟨by simp; omega, by simp; omega, by simp; omega, by simp; omega⟩ (by simp; omega) (by simp; omega) (k1.trans k2) B2
def mK (ad : Ad) : LSp := fun evs h Q => ∃ (b l most : Nat) (ns : List Int), evs = [.ref b, .ref l, .int most] ∧ h[l]? = some (.lst (ns.map EV.int)) ∧ ns ≠ [] ∧ ns.length ≤ 1000 ∧ l ≠ b ∧ 0 < most ∧ most < 1000 ∧ cX h b ∧
  ∀ (xs ys : List Int) (h' : EH), xs.length ≤ most → xs.length = ys.length → (∀ m ∈ xs, m ∈ ns) → (∀ m ∈ ys, m ∈ ns) → aH (is1 b) h h' → cX h' b → Q (.tup [tx xs, tx ys]) h'
abbrev N__law_even : List Str := ["_law_bag_here", "_law_letters", "_law_most", "_law_left", "_law_right", "_law_size"]
def t__law_even_2 (ad : Ad) : LS :=
    aW (aY (aa (lSl (ao 3) (aJ none) (aJ (some (ao 5)))) (aa (lSl (ao 4) (aJ none) (aJ (some (ao 5)))) (aq))))
def t__law_even_1 (ad : Ad) : LS :=
    aD (aU (lCB minE (aa (lCB eG (aa (ao 3) (aq))) (aa (lCB eG (aa (ao 4) (aq))) (aq)))) 5) <| t__law_even_2 ad
def t__law_even_0 (ad : Ad) : LS :=
    aD (di (aA (lN ad) (aa (ao 0) (aa (ao 1) (aa (ao 2) (aq))))) (.tp [.nm 3, .nm 4])) <| t__law_even_1 ad
def t__law_even (ad : Ad) : LS :=
    aD (di (aA (lN ad) (aa (ao 0) (aa (ao 1) (aa (ao 2) (aq))))) (.tp [.nm 3, .nm 4])) <|
    aD (aU (lCB minE (aa (lCB eG (aa (ao 3) (aq))) (aa (lCB eG (aa (ao 4) (aq))) (aq)))) 5) <|
    aW (aY (aa (lSl (ao 3) (aJ none) (aJ (some (ao 5)))) (aa (lSl (ao 4) (aJ none) (aJ (some (ao 5)))) (aq))))
theorem len__law_even (ad : Ad) (evs : List EV) (h : EH) (Q : EK) (q : mK ad evs h Q) : evs.length = ["_law_bag_here", "_law_letters", "_law_most"].length := by
  obtain ⟨_, _, _, _, rfl, _⟩ := q; rfl
theorem fM {f : En → EH → Prop} {rt : EK} {c k : En → EH → Prop} {env : En} {h : EH} (p : f env h) : aV (LEnds.mk f rt c k) env h := p
theorem pure__law_even (ad : Ad) (evs : List EV) (h : EH) (Q : EK) (q : mK ad evs h Q) : t__law_even ad (aM Q) (bF N__law_even evs) h := by
  obtain ⟨b, l, most, ns, rfl, e, ne, nl, hlb, m0, m1, B, q⟩ := q
  show t__law_even_0 ad (aM Q) [some (.ref b), some (.ref l), some (.int most), none, none, none] h
  unfold t__law_even_0
  rw [aD, di]
  simp only [aU, aW, cQ, bh, lOp, ao, lC, lB, lT, cV, lOr, dB, lIf, bV, fK, cO, aq, aa, aY, bR, lCB, lBM, lSl, aJ, aV, lIt, bx, bD, di, fQ, cR, bu, cG, lLc, fV, fL, aA, bA, gZ, gS, sZ, sS, aZ, cZ, dG]
  refine ⟨b, l, most, ns, rfl, e, ne, nl, hlb, m0, m1, B, fun xs ys h1 lx ly mx my k1 B1 => ?_⟩
  simp only [cH, Pat.bind, Pat.binds, List.set]
  unfold t__law_even_1
  rw [aD, aU]
  simp only [aU, aW, cQ, bh, lOp, ao, lC, lB, lT, cV, lOr, dB, lIf, bV, fK, cO, aq, aa, aY, bR, lCB, lBM, lSl, aJ, aV, lIt, bx, bD, di, fQ, cR, bu, cG, lLc, fV, fL, aA, bA, gZ, gS, sZ, sS, aZ, cZ, dG, tx, eG, minE, List.length_map]
  obtain ⟨n, en, nx, ny, nn⟩ : ∃ n : Nat, (if ((ys.length : Nat) : Int) < (xs.length : Nat) then ((ys.length : Nat) : Int) else (xs.length : Nat)) = (n : Nat) ∧ n ≤ xs.length ∧ n ≤ ys.length ∧ (n = xs.length ∨ n = ys.length) := by
    by_cases c : ys.length < xs.length
    · exact ⟨ys.length, if_pos (by omega), by omega, by omega, .inr rfl⟩
    · exact ⟨xs.length, if_neg (by omega), by omega, by omega, .inl rfl⟩
  rw [en]
  unfold t__law_even_2
  simp only [aW, aU, aW, cQ, bh, lOp, ao, lC, lB, lT, cV, lOr, dB, lIf, bV, fK, cO, aq, aa, aY, bR, lCB, lBM, lSl, aJ, aV, lIt, bx, bD, di, fQ, cR, bu, cG, lLc, fV, fL, aA, bA, gZ, gS, sZ, sS, aZ, cZ, dG, slE, rN]
  refine ⟨by simp [bG], ?_⟩
  rw [← List.map_take, ← List.map_take]
  exact q (xs.take n) (ys.take n) h1 (by rw [List.length_take]; omega) (by rw [List.length_take, List.length_take]; omega) (fun m hm => mx m (List.mem_of_mem_take hm)) (fun m hm => my m (List.mem_of_mem_take hm)) k1 B1
def cE (p : Cel) : EV := ptE p.1 p.2
def cKV (f : Cel → EV) (l : List Cel) : List (EV × EV) := l.map fun p => (cE p, f p)
theorem cKV_get (f : Cel → EV) (l : List Cel) (p : Cel) : dGetT (cKV f l) (cE p) = if p ∈ l then some (f p) else none := by
  induction l with
  | nil => rfl
  | cons q l ih =>
    unfold cKV at ih ⊢
    rw [List.map_cons, dGetT, ih]
    by_cases e : q = p
    · subst e; simp
    · have : ¬ keyL (cE q) = keyL (cE p) := fun z => e (by have := keyL_pt_inj z; exact Prod.ext this.1 this.2)
      rw [if_neg this]
      have : ¬ p = q := fun z => e z.symm
      simp [this]
theorem cKV_has (f : Cel → EV) (l : List Cel) (x y : Int) : dHasT (cKV f l) (.tup [.int x, .int y]) = decide (∃ p ∈ l, (p.1 : Int) = x ∧ (p.2 : Int) = y) := by
  unfold dHasT
  induction l with
  | nil => rfl
  | cons q l ih =>
    unfold cKV at ih ⊢
    rw [List.map_cons, dGetT]
    by_cases e : (q.1 : Int) = x ∧ (q.2 : Int) = y
    · rw [if_pos (by show some [Sum.inl (q.1 : Int), .inl (q.2 : Int)] = some [.inl x, .inl y]; rw [e.1, e.2])]
      rw [decide_eq_true ⟨q, List.mem_cons_self, e⟩]; rfl
    · rw [if_neg (fun z => e (by
        have z : some [Sum.inl (q.1 : Int), (.inl (q.2 : Int) : Int ⊕ Str)] = some [.inl x, .inl y] := z
        simp only [Option.some.injEq, List.cons.injEq, Sum.inl.injEq] at z
        exact ⟨z.1, z.2.1⟩)), ih]
      refine decide_eq_decide.mpr ⟨fun ⟨p, hp, h⟩ => ⟨p, List.mem_cons_of_mem _ hp, h⟩, fun ⟨p, hp, h⟩ => ?_⟩
      rcases List.mem_cons.mp hp with rfl | hp
      · exact absurd h e
      · exact ⟨p, hp, h⟩
theorem cKV_hasC (f : Cel → EV) (l : List Cel) (p : Cel) : dHasT (cKV f l) (cE p) = decide (p ∈ l) := by
  unfold dHasT
  rw [cKV_get]
  by_cases h : p ∈ l <;> simp [h]
def insC (p : Cel) (l : List Cel) : List Cel := if p ∈ l then l else l ++ [p]
theorem nQ {p q : Cel} {l : List Cel} : q ∈ insC p l ↔ q = p ∨ q ∈ l := by
  unfold insC
  split
  · rename_i h
    exact ⟨.inr, fun z => z.elim (fun e => e ▸ h) id⟩
  · rw [List.mem_append, List.mem_singleton]
    exact Or.comm
theorem insC_nd {p : Cel} {l : List Cel} (h : l.Nodup) : (insC p l).Nodup := by
  unfold insC
  split
  · exact h
  · rename_i n
    rw [List.nodup_append]
    exact ⟨h, by simp, fun a ha b hb => by rw [List.mem_singleton] at hb; subst hb; rintro rfl; exact n ha⟩
theorem cKV_put (f : Cel → EV) (l : List Cel) (p : Cel) : dPutT (cKV f l) (cE p) (f p) = cKV f (insC p l) := by
  unfold dPutT insC
  rw [cKV_hasC]
  by_cases h : p ∈ l
  · rw [decide_eq_true h, if_pos rfl, if_pos h]
    unfold dRepT cKV
    rw [List.map_map]
    refine List.map_congr_left fun q hq => ?_
    show (if keyL (cE q) = keyL (cE p) then (cE q, f p) else (cE q, f q)) = (cE q, f q)
    split
    · rename_i z
      have := keyL_pt_inj z
      have : q = p := Prod.ext this.1 this.2
      rw [this]
    · rfl
  · rw [decide_eq_false h, if_neg (by decide), if_neg h]
    unfold cKV
    rw [List.map_append]; rfl
def gH (h : EH) (d : Nat) (f : Cel → EV) (l : List Cel) : Prop := h[d]? = some (.dct (cKV f l))
theorem gH.has {h : EH} {d : Nat} {f : Cel → EV} {l : List Cel} (z : gH h d f l) (n : Bool) (x y : Int) {P : EK} (q : P (.bl (n ^^ decide (∃ p ∈ l, (p.1 : Int) = x ∧ (p.2 : Int) = y))) h) : inA n (.tup [.int x, .int y]) (.ref d) h P := by
  unfold inA
  simp only [show h[d]? = some (.dct (cKV f l)) from z]
  exact ⟨rfl, by rw [cKV_has]; exact q⟩
theorem gH.hasC {h : EH} {d : Nat} {f : Cel → EV} {l : List Cel} (z : gH h d f l) (n : Bool) (p : Cel) {P : EK} (q : P (.bl (n ^^ decide (p ∈ l))) h) : inA n (cE p) (.ref d) h P := by
  unfold inA
  simp only [show h[d]? = some (.dct (cKV f l)) from z]
  exact ⟨rfl, by rw [cKV_hasC]; exact q⟩
theorem gH.get {h : EH} {d : Nat} {f : Cel → EV} {l : List Cel} (z : gH h d f l) {p : Cel} (hp : p ∈ l) {P : EK} (q : P (f p) h) : ixA (.ref d) (cE p) h P :=
  ia_dt z rfl (by rw [cKV_get, if_pos hp]) q
theorem gH.put {h : EH} {d : Nat} {f : Cel → EV} {l : List Cel} (z : gH h d f l) {p : Cel} {v : EV} (ev : v = f p) (sz : l.length < sizeLine) {P : EH → Prop} (q : P (h.set d (.dct (cKV f (insC p l))))) : setA (.ref d) (cE p) v h P := by
  unfold setA
  simp only [show h[d]? = some (.dct (cKV f l)) from z]
  subst ev
  refine ⟨rfl, by unfold cKV; rw [List.length_map]; exact sz, ?_⟩
  rw [cKV_put]; exact q
theorem cs_len {n m : Nat} {l : List Cel} (nd : l.Nodup) (h : ∀ p ∈ l, p.1 ≤ n ∧ p.2 ≤ m) : l.length ≤ (n + 1) * (m + 1) := by
  rw [← ptsL_len]
  exact nd.length_le_of_subset fun p hp => ptsL_mem.mpr (h p hp)
theorem cs_lt {n m : Nat} {l : List Cel} (nd : l.Nodup) (h : ∀ p ∈ l, p.1 ≤ n ∧ p.2 ≤ m) (hn : n ≤ 100) (hm : m ≤ 100) : l.length < sizeLine := by
  have h1 := cs_len nd h
  have h2 : (n + 1) * (m + 1) ≤ 101 * 101 := Nat.mul_le_mul (by omega) (by omega)
  rw [bG]; omega
theorem rangeL_at (a k : Nat) : eZ (a : Int) k = (List.range' a k).map fun (j : Nat) => EV.int j := by
  unfold eZ
  rw [List.range'_eq_map_range, List.map_map]
  refine List.map_congr_left fun j _ => ?_
  show EV.int ((a : Int) + j) = EV.int ((a + j : Nat) : Int)
  congr 1
structure SmOk (B : Bw) (L R : List Int) : Prop where
  ok : B.Ok
  s : ∀ i j, i < L.length → j < R.length → B.sm i j = decide (L.getD i 0 = R.getD j 0)
def abE (B : Bw) : EV := pairE (B.a, B.b)
def inE (q : Cel × Int) : EV := .tup [cE q.1, .int q.2]
def iQ (ad : Ad) : LSp := fun evs h Q => ∃ t lam : Nat, evs = [.int t, .int lam] ∧ t ≤ 1000 ∧ lam ≤ 1000 ∧ Told h ((rimC lam t).map cE) Q
def oO (lam t : Nat) : List Cel := ((List.range' (t - lam) (t - (t - lam))).map fun i => (i, t)) ++ [(t, t)] ++ ((List.range (t - (t - lam))).map fun k => (t, t - 1 - k))
def oU (ad : Ad) : LSp := fun evs h Q => ∃ t lam : Nat, evs = [.int t, .int lam] ∧ t ≤ 1000 ∧ lam ≤ 1000 ∧ Told h ((oO lam t).map cE) Q
def jj (ad : Ad) : LSp := fun evs h Q => ∃ (B : Bw) (L R : List Int) (i j : Nat), evs = [tx L, tx R, abE B, .int i, .int j] ∧ SmOk B L R ∧ i ≤ L.length ∧ j ≤ R.length ∧ Told h ((B.into i j).map inE) Q
abbrev N_rim_points : List Str := ["many", "lag", "low", "i", "j"]
def qI (ad : Ad) : LS :=
    aD (aU (lCB maxE (aa (lC (.int 0)) (aa (lOp dY (ao 0) (ao 1)) (aq)))) 2) <|
    aW (lOp bJ (lLc (bD (aa (ao 2) (aa (lOp bJ (ao 0) (lC (.int 1))) (aq)))) (.nm 3) (cY) (aY (aa (ao 3) (aa (ao 0) (aq)))) [3]) (lLc (lRng3D (aa (lOp dY (ao 0) (lC (.int 1))) (aa (lOp dY (ao 2) (lC (.int 1))) (aa (fL (lC (.int 1))) (aq))))) (.nm 4) (cY) (aY (aa (ao 0) (aa (ao 4) (aq)))) [4]))
abbrev N__law_spots : List Str := ["_law_t", "_law_lag", "_law_low", "_law_i", "_law_k"]
def qQ (ad : Ad) : LS :=
    aD (aU (lCB maxE (aa (lC (.int 0)) (aa (lOp dY (ao 0) (ao 1)) (aq)))) 2) <|
    aW (lOp bJ (lOp bJ (lLc (bD (aa (ao 2) (aa (ao 0) (aq)))) (.nm 3) (cY) (aY (aa (ao 3) (aa (ao 0) (aq)))) [3]) (bR (aa (aY (aa (ao 0) (aa (ao 0) (aq)))) (aq)))) (lLc (bx (aa (lOp dY (ao 0) (ao 2)) (aq))) (.nm 4) (cY) (aY (aa (ao 0) (aa (lOp dY (lOp dY (ao 0) (lC (.int 1))) (ao 4)) (aq)))) [4]))
abbrev N__law_into : List Str := ["_law_left", "_law_right", "_law_pair_here", "_law_i", "_law_j", "_law_found"]
def t__law_into_4 (ad : Ad) : LS :=
    aW (ao 5)
def t__law_into_3 (ad : Ad) : LS :=
    aD (bB (lB (lOp gtE (ao 4) (lC (.int 0))))
      (bh (lBM "list" fX (ao 5) (aa (aY (aa (aY (aa (ao 3) (aa (lOp dY (ao 4) (lC (.int 1))) (aq)))) (aa (lOp ixA (ao 2) (lC (.int 1))) (aq)))) (aq))))
      (aV)) <| t__law_into_4 ad
def t__law_into_2 (ad : Ad) : LS :=
    aD (bB (lB (lOp gtE (ao 3) (lC (.int 0))))
      (bh (lBM "list" fX (ao 5) (aa (aY (aa (aY (aa (lOp dY (ao 3) (lC (.int 1))) (aa (ao 4) (aq)))) (aa (lOp ixA (ao 2) (lC (.int 0))) (aq)))) (aq))))
      (aV)) <| t__law_into_3 ad
def t__law_into_1 (ad : Ad) : LS :=
    aD (bB (cV (lB (lOp gtE (ao 3) (lC (.int 0)))) (cV (lB (lOp gtE (ao 4) (lC (.int 0)))) (lB (lOp (eqE false) (lOp ixA (ao 0) (lOp dY (ao 3) (lC (.int 1)))) (lOp ixA (ao 1) (lOp dY (ao 4) (lC (.int 1))))))))
      (bh (lBM "list" fX (ao 5) (aa (aY (aa (aY (aa (lOp dY (ao 3) (lC (.int 1))) (aa (lOp dY (ao 4) (lC (.int 1))) (aq)))) (aa (lC (.int 0)) (aq)))) (aq))))
      (aV)) <| t__law_into_2 ad
def t__law_into_0 (ad : Ad) : LS :=
    aD (aU (bR (aq)) 5) <| t__law_into_1 ad
def t__law_into (ad : Ad) : LS :=
    aD (aU (bR (aq)) 5) <|
    aD (bB (cV (lB (lOp gtE (ao 3) (lC (.int 0)))) (cV (lB (lOp gtE (ao 4) (lC (.int 0)))) (lB (lOp (eqE false) (lOp ixA (ao 0) (lOp dY (ao 3) (lC (.int 1)))) (lOp ixA (ao 1) (lOp dY (ao 4) (lC (.int 1))))))))
      (bh (lBM "list" fX (ao 5) (aa (aY (aa (aY (aa (lOp dY (ao 3) (lC (.int 1))) (aa (lOp dY (ao 4) (lC (.int 1))) (aq)))) (aa (lC (.int 0)) (aq)))) (aq))))
      (aV)) <|
    aD (bB (lB (lOp gtE (ao 3) (lC (.int 0))))
      (bh (lBM "list" fX (ao 5) (aa (aY (aa (aY (aa (lOp dY (ao 3) (lC (.int 1))) (aa (ao 4) (aq)))) (aa (lOp ixA (ao 2) (lC (.int 0))) (aq)))) (aq))))
      (aV)) <|
    aD (bB (lB (lOp gtE (ao 4) (lC (.int 0))))
      (bh (lBM "list" fX (ao 5) (aa (aY (aa (aY (aa (ao 3) (aa (lOp dY (ao 4) (lC (.int 1))) (aq)))) (aa (lOp ixA (ao 2) (lC (.int 1))) (aq)))) (aq))))
      (aV)) <|
    aW (ao 5)
theorem len_rim_points (ad : Ad) (evs : List EV) (h : EH) (Q : EK) (q : iQ ad evs h Q) : evs.length = ["many", "lag"].length := by
  obtain ⟨_, _, rfl, _⟩ := q; rfl
theorem len__law_spots (ad : Ad) (evs : List EV) (h : EH) (Q : EK) (q : oU ad evs h Q) : evs.length = ["_law_t", "_law_lag"].length := by
  obtain ⟨_, _, rfl, _⟩ := q; rfl
theorem len__law_into (ad : Ad) (evs : List EV) (h : EH) (Q : EK) (q : jj ad evs h Q) : evs.length = ["_law_left", "_law_right", "_law_pair_here", "_law_i", "_law_j"].length := by
  obtain ⟨_, _, _, _, _, rfl, _⟩ := q; rfl
theorem mx_ii {i j k : Int} {h : EH} {P : EK} (e : max i j = k) (p : P (.int k) h) : maxE [.int i, .int j] h P := by
  show P (.int (if j > i then j else i)) h
  rw [show (if j > i then j else i) = k by subst e; split <;> omega]; exact p
theorem mn_ii {i j k : Int} {h : EH} {P : EK} (e : min i j = k) (p : P (.int k) h) : minE [.int i, .int j] h P := by
  show P (.int (if j < i then j else i)) h
  rw [show (if j < i then j else i) = k by subst e; split <;> omega]; exact p
theorem pure_rim_points (ad : Ad) (evs : List EV) (h : EH) (Q : EK) (q : iQ ad evs h Q) : qI ad (aM Q) (bF N_rim_points evs) h := by
  obtain ⟨t, lam, rfl, ht, hl, q⟩ := q
  have sz : sizeLine = 16777216 := bG
  show qI ad (aM Q) [some (.int t), some (.int lam), none, none, none] h
  unfold qI
  rw [aD, aU]
  simp only [lCB, lOp, lC, aa, aq, ao, gZ, gS]
  refine iU (mx_ii (k := ((t - lam : Nat) : Int)) (by omega) ?_)
  simp only [sZ, sS]
  rw [aW]
  simp only [lOp, lLc, bD, lRng3D, fL, lC, aa, aq, ao, gZ, gS]
  refine fU ⟨by omega, ?_⟩
  rw [show (((t : Int) + 1) - ((t - lam : Nat) : Int)).toNat = t + 1 - (t - lam) by omega, rangeL_at]
  refine jO (fun i : Nat => EV.int i) (fun i => some (cE (i, t))) _ (by simp; omega) (fun _ _ => trivial) (fun i hi h' ky kn k hy hn => cW ?_) fun h1 k1 e1 => ?_
  · simp only [sZ, sS, aZ, cY, aY, aa, aq, ao, if_true, gZ, gS]
    exact ⟨by rw [sz]; simp, hy _ rfl _ .refl⟩
  refine iU (iU ⟨rfl, by omega, ?_⟩)
  have ed : downN ((t : Int) - 1) (((t : Int) - 1) - (((t - lam : Nat) : Int) - 1)).toNat = (List.range (t - (t - lam))).map fun (k : Nat) => EV.int ((t - 1 - k : Nat) : Int) := by
    unfold downN
    rw [show (((t : Int) - 1) - (((t - lam : Nat) : Int) - 1)).toNat = t - (t - lam) by omega]
    refine List.map_congr_left fun k hk => ?_
    rw [List.mem_range] at hk
    congr 1
    omega
  rw [ed]
  refine jO (fun k : Nat => EV.int ((t - 1 - k : Nat) : Int)) (fun k => some (cE (t, t - 1 - k))) _ (by simp; omega) (fun _ _ => trivial) (fun i hi h' ky kn k hy hn => cW ?_) fun h2 k2 e2 => ?_
  · simp only [sZ, sS, aZ, cY, aY, aa, aq, ao, if_true, gZ, gS]
    exact ⟨by rw [sz]; simp, hy _ rfl _ .refl⟩
  have e12 := k2.at e1
  refine add_l e12 e2 (by simp [bG]; omega) ?_
  refine q _ _ ((k1.trans k2).trans (aH.app _)) (by have := k1.1; have := k2.1; omega) ?_
  rw [bf]
  congr 2
  unfold rimC
  rw [List.map_append, List.map_map, List.map_map, List.filterMap_eq_map', List.filterMap_eq_map']
  rfl
theorem pure__law_spots (ad : Ad) (evs : List EV) (h : EH) (Q : EK) (q : oU ad evs h Q) : qQ ad (aM Q) (bF N__law_spots evs) h := by
  obtain ⟨t, lam, rfl, ht, hl, q⟩ := q
  have sz : sizeLine = 16777216 := bG
  show qQ ad (aM Q) [some (.int t), some (.int lam), none, none, none] h
  unfold qQ
  rw [aD, aU]
  simp only [lCB, lOp, lC, aa, aq, ao, gZ, gS]
  refine iU (mx_ii (k := ((t - lam : Nat) : Int)) (by omega) ?_)
  simp only [sZ, sS]
  rw [aW]
  simp only [lOp, lLc, bR, aY, bx, bD, lC, aa, aq, ao, gZ, gS]
  refine ⟨by omega, ?_⟩
  rw [show ((t : Int) - ((t - lam : Nat) : Int)).toNat = t - (t - lam) by omega, rangeL_at]
  refine jO (fun i : Nat => EV.int i) (fun i => some (cE (i, t))) _ (by simp; omega) (fun _ _ => trivial) (fun i hi h' ky kn k hy hn => cW ?_) fun h1 k1 e1 => ?_
  · simp only [sZ, sS, aZ, cY, aY, aa, aq, ao, if_true, gZ, gS]
    exact ⟨by rw [sz]; simp, hy _ rfl _ .refl⟩
  refine ⟨by rw [sz]; simp, by rw [sz]; simp, ?_⟩
  refine add_l (dF e1 _) bf (by simp [bG]; omega) ?_
  have k13 : aH no1 h (h1 ++ [EO.lst [EV.tup [.int t, .int t]]] ++ [EO.lst (((List.range' (t - lam) (t - (t - lam))).filterMap fun i => some (cE (i, t))) ++ [EV.tup [.int t, .int t]])]) := k1.trans ((aH.app _).trans (aH.app _))
  have e3 : (h1 ++ [EO.lst [EV.tup [.int t, .int t]]] ++ [EO.lst (((List.range' (t - lam) (t - (t - lam))).filterMap fun i => some (cE (i, t))) ++ [EV.tup [.int t, .int t]])])[(h1 ++ [EO.lst [EV.tup [.int t, .int t]]]).length]? = _ := bf
  have l3 : h.length ≤ (h1 ++ [EO.lst [EV.tup [.int t, .int t]]]).length := by have := k1.1; simp; omega
  generalize (h1 ++ [EO.lst [EV.tup [.int t, .int t]]]).length = r3 at e3 l3 ⊢
  generalize h1 ++ [EO.lst [EV.tup [.int t, .int t]]] ++ [EO.lst (((List.range' (t - lam) (t - (t - lam))).filterMap fun i => some (cE (i, t))) ++ [EV.tup [.int t, .int t]])] = h3 at k13 e3 ⊢
  refine iU ⟨by omega, ?_⟩
  rw [show ((t : Int) - ((t - lam : Nat) : Int)).toNat = t - (t - lam) by omega, rangeL_nat]
  refine jO (fun k : Nat => EV.int k) (fun k => some (cE (t, t - 1 - k))) _ (by simp; omega) (fun _ _ => trivial) (fun i hi h' ky kn k hy hn => cW ?_) fun h4 k4 e4 => ?_
  · simp only [sZ, sS, aZ, cY, aY, lOp, lC, aa, aq, ao, if_true, gZ, gS]
    rw [List.mem_range'_1] at hi
    refine iU (iU ⟨by rw [sz]; simp, ?_⟩)
    rw [show (t : Int) - 1 - (i : Nat) = ((t - 1 - i : Nat) : Int) by omega]
    exact hy _ rfl _ .refl
  have e34 := k4.at e3
  refine add_l e34 e4 (by simp [bG]; omega) ?_
  refine q _ _ ((k13.trans k4).trans (aH.app _)) (by have := k13.1; have := k4.1; omega) ?_
  rw [bf]
  congr 2
  unfold oO
  rw [List.map_append, List.map_append, List.map_map, List.map_map, List.filterMap_eq_map', List.filterMap_eq_map', ← List.range_eq_range']
  rfl
theorem spotsC_mem {B : Bw} {t : Nat} {p : Cel} : p ∈ oO B.lam t ↔ max p.1 p.2 = t ∧ B.inB p := by
  rw [← rimC_mem]
  unfold oO rimC
  rw [show t + 1 - (t - B.lam) = (t - (t - B.lam)) + 1 by omega, List.range'_concat, List.map_append]
  rw [show t - B.lam + 1 * (t - (t - B.lam)) = t by omega]
  rfl
theorem pure__law_into (ad : Ad) (evs : List EV) (h : EH) (Q : EK) (q : jj ad evs h Q) : t__law_into ad (aM Q) (bF N__law_into evs) h := by
  obtain ⟨B, L, R, i, j, rfl, S, hi, hj, q⟩ := q
  have sz : sizeLine = 16777216 := bG
  show t__law_into_0 ad (aM Q) [some (tx L), some (tx R), some (abE B), some (.int i), some (.int j), none] h
  unfold t__law_into_0
  rw [aD, aU]
  simp only [bR, aq, List.length_nil]
  refine ⟨by rw [sz]; decide, ?_⟩
  simp only [sZ, sS]
  have k0 : aH no1 h (h ++ [EO.lst []]) := aH.app _
  have e0 : (h ++ [EO.lst []])[h.length]? = some (.lst (([] : List (Cel × Int)).map inE)) := bf
  have last : ∀ (h1 : EH) (xs : List (Cel × Int)), aH no1 h h1 → h1[h.length]? = some (.lst (xs.map inE)) → xs = B.into i j → t__law_into_4 ad (aM Q) [some (tx L), some (tx R), some (abE B), some (.int i), some (.int j), some (.ref h.length)] h1 := by
    intro h1 xs k1 e1 ex
    unfold t__law_into_4
    rw [aW]
    simp only [ao, gZ, gS]
    subst ex
    exact q _ _ k1 (Nat.le_refl _) e1
  have put : ∀ (h1 : EH) (xs : List (Cel × Int)) (x : Cel × Int), aH no1 h h1 → h1[h.length]? = some (.lst (xs.map inE)) → aH no1 h (h1.set h.length (.lst (xs.map inE ++ [inE x]))) ∧ (h1.set h.length (.lst (xs.map inE ++ [inE x])))[h.length]? = some (.lst ((xs ++ [x]).map inE)) := by
    intro h1 xs x k1 e1
    refine ⟨k1.fresh (Nat.le_refl _), ?_⟩
    rw [gK e1, List.map_append]; rfl
  have st3 : ∀ (h1 : EH) (xs : List (Cel × Int)), aH no1 h h1 → h1[h.length]? = some (.lst (xs.map inE)) → xs.length ≤ 2 → xs ++ (if 0 < j then [((i, j - 1), B.b)] else []) = B.into i j → t__law_into_3 ad (aM Q) [some (tx L), some (tx R), some (abE B), some (.int i), some (.int j), some (.ref h.length)] h1 := by
    intro h1 xs k1 e1 l1 ex
    unfold t__law_into_3
    try dsimp only
    rw [aD, bB]
    simp only [lB, lOp, lC, ao, gZ, gS]
    refine gt_i ?_
    by_cases c : 0 < j
    · rw [decide_eq_true (by omega)]
      simp only [if_true]
      rw [if_pos c] at ex
      rw [bh]
      simp only [lBM, aY, lOp, lC, aa, aq, ao, gZ, gS]
      refine ⟨rH e1, ?_⟩
      refine iU ⟨by rw [sz]; simp, ia_t (x := .int B.b) rfl ⟨by rw [sz]; simp, ?_⟩⟩
      have em : (EV.tup [.tup [.int i, .int ((j : Int) - 1)], .int B.b]) = inE ((i, j - 1), B.b) := by
        show _ = EV.tup [.tup [.int i, .int ((j - 1 : Nat) : Int)], .int B.b]
        rw [show (j : Int) - 1 = ((j - 1 : Nat) : Int) by omega]
      rw [em]
      refine app_f e1 (by rw [List.length_map, sz]; omega) ?_
      obtain ⟨k2, e2⟩ := put h1 xs ((i, j - 1), B.b) k1 e1
      exact last _ _ k2 e2 ex
    · rw [decide_eq_false (by omega)]
      simp only [Bool.false_eq_true, if_false]
      try refine fM ?_
      rw [if_neg c, List.append_nil] at ex
      exact last h1 xs k1 e1 ex
  have st2 : ∀ (h1 : EH) (xs : List (Cel × Int)), aH no1 h h1 → h1[h.length]? = some (.lst (xs.map inE)) → xs.length ≤ 1 → xs ++ ((if 0 < i then [((i - 1, j), B.a)] else []) ++ (if 0 < j then [((i, j - 1), B.b)] else [])) = B.into i j → t__law_into_2 ad (aM Q) [some (tx L), some (tx R), some (abE B), some (.int i), some (.int j), some (.ref h.length)] h1 := by
    intro h1 xs k1 e1 l1 ex
    unfold t__law_into_2
    try dsimp only
    rw [aD, bB]
    simp only [lB, lOp, lC, ao, gZ, gS]
    refine gt_i ?_
    by_cases c : 0 < i
    · rw [decide_eq_true (by omega)]
      simp only [if_true]
      rw [if_pos c] at ex
      rw [bh]
      simp only [lBM, aY, lOp, lC, aa, aq, ao, gZ, gS]
      refine ⟨rH e1, ?_⟩
      refine iU ⟨by rw [sz]; simp, ia_t (x := .int B.a) rfl ⟨by rw [sz]; simp, ?_⟩⟩
      have em : (EV.tup [.tup [.int ((i : Int) - 1), .int j], .int B.a]) = inE ((i - 1, j), B.a) := by
        show _ = EV.tup [.tup [.int ((i - 1 : Nat) : Int), .int j], .int B.a]
        rw [show (i : Int) - 1 = ((i - 1 : Nat) : Int) by omega]
      rw [em]
      refine app_f e1 (by rw [List.length_map, sz]; omega) ?_
      obtain ⟨k2, e2⟩ := put h1 xs ((i - 1, j), B.a) k1 e1
      exact st3 _ _ k2 e2 (by rw [List.length_append]; simp; omega) (by rw [List.append_assoc]; exact ex)
    · rw [decide_eq_false (by omega)]
      simp only [Bool.false_eq_true, if_false]
      try refine fM ?_
      rw [if_neg c, List.nil_append] at ex
      exact st3 h1 xs k1 e1 (by omega) ex
  unfold t__law_into_1
  try dsimp only
  rw [aD, bB]
  simp only [cV, lB, lOp, lC, ao, gZ, gS]
  refine gt_i ?_
  by_cases c1 : 0 < i
  · rw [decide_eq_true (by omega)]
    simp only [if_true]
    refine gt_i ?_
    by_cases c2 : 0 < j
    · rw [decide_eq_true (by omega)]
      simp only [if_true]
      refine iU (ia_t (x := .int (L.getD (i - 1) 0)) (by rw [show (i : Int) - 1 = ((i - 1 : Nat) : Int) by omega]; exact tx_at (by omega)) ?_)
      refine iU (ia_t (x := .int (R.getD (j - 1) 0)) (by rw [show (j : Int) - 1 = ((j - 1 : Nat) : Int) by omega]; exact tx_at (by omega)) (eq_i ?_))
      rw [← S.s (i - 1) (j - 1) (by omega) (by omega), Bool.false_xor]
      cases c3 : B.sm (i - 1) (j - 1) with
      | true =>
        simp only [if_true]
        rw [bh]
        simp only [lBM, aY, lOp, lC, aa, aq, ao, gZ, gS]
        refine ⟨rH e0, ?_⟩
        refine iU (iU ⟨by rw [sz]; simp, by rw [sz]; simp, ?_⟩)
        have em : (EV.tup [.tup [.int ((i : Int) - 1), .int ((j : Int) - 1)], .int 0]) = inE ((i - 1, j - 1), 0) := by
          show _ = EV.tup [.tup [.int ((i - 1 : Nat) : Int), .int ((j - 1 : Nat) : Int)], .int 0]
          rw [show (i : Int) - 1 = ((i - 1 : Nat) : Int) by omega, show (j : Int) - 1 = ((j - 1 : Nat) : Int) by omega]
        rw [em]
        refine app_f e0 (by rw [List.length_map, sz]; simp) ?_
        obtain ⟨k2, e2⟩ := put _ [] ((i - 1, j - 1), 0) k0 e0
        refine st2 _ _ k2 e2 (by simp) ?_
        unfold Bw.into
        rw [if_pos (show (decide (0 < i) && (decide (0 < j) && B.sm (i - 1) (j - 1))) = true by rw [c3]; simp [c1, c2])]
        rfl
      | false =>
        simp only [Bool.false_eq_true, if_false]
        try refine fM ?_
        refine st2 _ [] k0 e0 (by simp) ?_
        unfold Bw.into
        rw [if_neg (show ¬ (decide (0 < i) && (decide (0 < j) && B.sm (i - 1) (j - 1))) = true by rw [c3]; simp)]
    · rw [decide_eq_false (by omega)]
      simp only [Bool.false_eq_true, if_false]
      try refine fM ?_
      refine st2 _ [] k0 e0 (by simp) ?_
      unfold Bw.into
      rw [if_neg (show ¬ (decide (0 < i) && (decide (0 < j) && B.sm (i - 1) (j - 1))) = true by simp [c2])]
  · rw [decide_eq_false (by omega)]
    simp only [Bool.false_eq_true, if_false]
    try refine fM ?_
    refine st2 _ [] k0 e0 (by simp) ?_
    unfold Bw.into
    rw [if_neg (show ¬ (decide (0 < i) && (decide (0 < j) && B.sm (i - 1) (j - 1))) = true by simp [c1])]
def nu (ad : Ad) : LSp := fun evs h Q => ∃ (B : Bw) (L R : List Int) (p : Cel) (r b0 t0 : Nat), evs = [cE p, .ref r, tx L, tx R, abE B, .int B.lam] ∧ SmOk B L R ∧ L.length ≤ 100 ∧ R.length ≤ 100 ∧ p.1 ≤ L.length ∧ p.2 ≤ R.length ∧ B.inB p ∧ d9 h b0 t0 r L.length R.length B.g.best ∧
  ∀ (d : Nat) (l : List Cel) h', aH no1 h h' → h.length ≤ d → gH h' d (fun _ => .bl true) l → (∀ q : Cel, q.1 ≤ L.length → q.2 ≤ R.length → (q ∈ l ↔ B.Tr p q)) → Q (.ref d) h'
def qK (ad : Ad) : LSp := fun evs h Q => ∃ (B : Bw) (L R : List Int), evs = [tx L, tx R, abE B, .int B.lam] ∧ SmOk B L R ∧ L.length ≤ 100 ∧ R.length ≤ 100 ∧
  ∀ (d : Nat) (l : List Cel) h', aH no1 h h' → h.length ≤ d → gH h' d (fun q => .int (B.D q)) l → (∀ q : Cel, q ∈ l ↔ q.1 ≤ L.length ∧ q.2 ≤ R.length ∧ B.inB q) → Q (.ref d) h'
abbrev N_served_by : List Str := ["point", "rows", "left", "right", "pair", "lag", "found", "i", "j", "ways", "k", "m", "cost"]
def t_served_by_2 (ad : Ad) : LS :=
    aW (ao 6)
def iT (ad : Ad) : LS :=
    bB (lT (lCB anyE (aa (lLc (lIt (ao 9)) (.tp [.nm 10, .nm 11, .nm 12]) (cY) (bV (lOp (inA false) (aY (aa (ao 10) (aa (ao 11) (aq)))) (ao 6)) (lOp (eqE false) (lOp bJ (lOp ixA (lOp ixA (ao 1) (ao 10)) (ao 11)) (ao 12)) (lOp ixA (lOp ixA (ao 1) (ao 7)) (ao 8)))) [10, 11, 12]) (aq))))
      (bu (ao 6) (aY (aa (ao 7) (aa (ao 8) (aq)))) (lC (.bl true)))
      (aV)
def pZ (ad : Ad) : LS :=
    aD (bB (cV (lB (lOp gtE (ao 7) (lC (.int 0)))) (cV (lB (lOp gtE (ao 8) (lC (.int 0)))) (lB (lOp (eqE false) (lOp ixA (ao 2) (lOp dY (ao 7) (lC (.int 1)))) (lOp ixA (ao 3) (lOp dY (ao 8) (lC (.int 1))))))))
      (bh (lBM "list" fX (ao 9) (aa (aY (aa (lOp dY (ao 7) (lC (.int 1))) (aa (lOp dY (ao 8) (lC (.int 1))) (aa (lC (.int 0)) (aq))))) (aq))))
      (aV)) <| iT ad
def lA (ad : Ad) : LS :=
    aD (aU (bR (aa (aY (aa (lOp dY (ao 7) (lC (.int 1))) (aa (ao 8) (aa (lOp ixA (ao 4) (lC (.int 0))) (aq))))) (aa (aY (aa (ao 7) (aa (lOp dY (ao 8) (lC (.int 1))) (aa (lOp ixA (ao 4) (lC (.int 1))) (aq))))) (aq)))) 9) <| pZ ad
def t_served_by_1b_0 (ad : Ad) : LS :=
    bW (bD (aa (lCB maxE (aa (lOp ixA (ao 0) (lC (.int 1))) (aa (lOp dY (ao 7) (ao 5)) (aq)))) (aa (lOp bJ (lCB minE (aa (lCB eG (aa (ao 3) (aq))) (aa (lOp bJ (ao 7) (ao 5)) (aq)))) (lC (.int 1))) (aq)))) (.nm 8)
      (lA ad)
def t_served_by_1 (ad : Ad) : LS :=
    aD (bW (bD (aa (lOp ixA (ao 0) (lC (.int 0))) (aa (lOp bJ (lCB eG (aa (ao 2) (aq))) (lC (.int 1))) (aq)))) (.nm 7)
      (t_served_by_1b_0 ad)) <| t_served_by_2 ad
def t_served_by_0 (ad : Ad) : LS :=
    aD (aU (lDispT (ao 0) (lC (.bl true))) 6) <| t_served_by_1 ad
def t_served_by (ad : Ad) : LS :=
    aD (aU (lDispT (ao 0) (lC (.bl true))) 6) <|
    aD (bW (bD (aa (lOp ixA (ao 0) (lC (.int 0))) (aa (lOp bJ (lCB eG (aa (ao 2) (aq))) (lC (.int 1))) (aq)))) (.nm 7)
      (bW (bD (aa (lCB maxE (aa (lOp ixA (ao 0) (lC (.int 1))) (aa (lOp dY (ao 7) (ao 5)) (aq)))) (aa (lOp bJ (lCB minE (aa (lCB eG (aa (ao 3) (aq))) (aa (lOp bJ (ao 7) (ao 5)) (aq)))) (lC (.int 1))) (aq)))) (.nm 8)
      (aD (aU (bR (aa (aY (aa (lOp dY (ao 7) (lC (.int 1))) (aa (ao 8) (aa (lOp ixA (ao 4) (lC (.int 0))) (aq))))) (aa (aY (aa (ao 7) (aa (lOp dY (ao 8) (lC (.int 1))) (aa (lOp ixA (ao 4) (lC (.int 1))) (aq))))) (aq)))) 9) <|
    aD (bB (cV (lB (lOp gtE (ao 7) (lC (.int 0)))) (cV (lB (lOp gtE (ao 8) (lC (.int 0)))) (lB (lOp (eqE false) (lOp ixA (ao 2) (lOp dY (ao 7) (lC (.int 1)))) (lOp ixA (ao 3) (lOp dY (ao 8) (lC (.int 1))))))))
      (bh (lBM "list" fX (ao 9) (aa (aY (aa (lOp dY (ao 7) (lC (.int 1))) (aa (lOp dY (ao 8) (lC (.int 1))) (aa (lC (.int 0)) (aq))))) (aq))))
      (aV)) <|
    bB (lT (lCB anyE (aa (lLc (lIt (ao 9)) (.tp [.nm 10, .nm 11, .nm 12]) (cY) (bV (lOp (inA false) (aY (aa (ao 10) (aa (ao 11) (aq)))) (ao 6)) (lOp (eqE false) (lOp bJ (lOp ixA (lOp ixA (ao 1) (ao 10)) (ao 11)) (ao 12)) (lOp ixA (lOp ixA (ao 1) (ao 7)) (ao 8)))) [10, 11, 12]) (aq))))
      (bu (ao 6) (aY (aa (ao 7) (aa (ao 8) (aq)))) (lC (.bl true)))
      (aV)))) <|
    aW (ao 6)
abbrev N__law_band : List Str := ["_law_left", "_law_right", "_law_pair_here", "_law_lag", "_law_found", "_law_i", "_law_j", "_law_some", "_law_prev", "_law_price"]
def t__law_band_2 (ad : Ad) : LS :=
    aW (ao 4)
def ql (ad : Ad) : LS :=
    bB (lB (lOp (eqE true) (ao 7) (bR (aq))))
      (bu (ao 4) (aY (aa (ao 5) (aa (ao 6) (aq)))) (lCB minE (aa (ao 7) (aq))))
      (aV)
def kZ (ad : Ad) : LS :=
    aD (aU (lLc (lIt (aA (jj ad) (aa (ao 0) (aa (ao 1) (aa (ao 2) (aa (ao 5) (aa (ao 6) (aq)))))))) (.tp [.nm 8, .nm 9]) (lB (lOp (inA false) (ao 8) (ao 4))) (lOp bJ (lOp ixA (ao 4) (ao 8)) (ao 9)) [8, 9]) 7) <| ql ad
def t__law_band_1b_0 (ad : Ad) : LS :=
    bW (bD (aa (lCB maxE (aa (lC (.int 0)) (aa (lOp dY (ao 5) (ao 3)) (aq)))) (aa (lOp bJ (lCB minE (aa (lCB eG (aa (ao 1) (aq))) (aa (lOp bJ (ao 5) (ao 3)) (aq)))) (lC (.int 1))) (aq)))) (.nm 6)
      (kZ ad)
def t__law_band_1 (ad : Ad) : LS :=
    aD (bW (bx (aa (lOp bJ (lCB eG (aa (ao 0) (aq))) (lC (.int 1))) (aq))) (.nm 5)
      (t__law_band_1b_0 ad)) <| t__law_band_2 ad
def t__law_band_0 (ad : Ad) : LS :=
    aD (aU (lDispT (aY (aa (lC (.int 0)) (aa (lC (.int 0)) (aq)))) (lC (.int 0))) 4) <| t__law_band_1 ad
def t__law_band (ad : Ad) : LS :=
    aD (aU (lDispT (aY (aa (lC (.int 0)) (aa (lC (.int 0)) (aq)))) (lC (.int 0))) 4) <|
    aD (bW (bx (aa (lOp bJ (lCB eG (aa (ao 0) (aq))) (lC (.int 1))) (aq))) (.nm 5)
      (bW (bD (aa (lCB maxE (aa (lC (.int 0)) (aa (lOp dY (ao 5) (ao 3)) (aq)))) (aa (lOp bJ (lCB minE (aa (lCB eG (aa (ao 1) (aq))) (aa (lOp bJ (ao 5) (ao 3)) (aq)))) (lC (.int 1))) (aq)))) (.nm 6)
      (aD (aU (lLc (lIt (aA (jj ad) (aa (ao 0) (aa (ao 1) (aa (ao 2) (aa (ao 5) (aa (ao 6) (aq)))))))) (.tp [.nm 8, .nm 9]) (lB (lOp (inA false) (ao 8) (ao 4))) (lOp bJ (lOp ixA (ao 4) (ao 8)) (ao 9)) [8, 9]) 7) <|
    bB (lB (lOp (eqE true) (ao 7) (bR (aq))))
      (bu (ao 4) (aY (aa (ao 5) (aa (ao 6) (aq)))) (lCB minE (aa (ao 7) (aq))))
      (aV)))) <|
    aW (ao 4)
theorem len_served_by (ad : Ad) (evs : List EV) (h : EH) (Q : EK) (q : nu ad evs h Q) : evs.length = ["point", "rows", "left", "right", "pair", "lag"].length := by
  obtain ⟨_, _, _, _, _, _, _, rfl, _⟩ := q; rfl
theorem len__law_band (ad : Ad) (evs : List EV) (h : EH) (Q : EK) (q : qK ad evs h Q) : evs.length = ["_law_left", "_law_right", "_law_pair_here", "_law_lag"].length := by
  obtain ⟨_, _, _, rfl, _⟩ := q; rfl
abbrev Way3 := Int × Int × Int
def wE3 (w : Way3) : EV := .tup [.int w.1, .int w.2.1, .int w.2.2]
def ways3 (B : Bw) (i j : Nat) : List Way3 := [((i : Int) - 1, (j : Int), B.a), ((i : Int), (j : Int) - 1, B.b)] ++ (if (decide (0 < i) && (decide (0 < j) && B.sm (i - 1) (j - 1))) = true then [((i : Int) - 1, (j : Int) - 1, 0)] else [])
def tst3 (B : Bw) (l : List Cel) (i j : Nat) (w : Way3) : Bool := decide (∃ q ∈ l, (q.1 : Int) = w.1 ∧ (q.2 : Int) = w.2.1 ∧ B.D q + w.2.2 = B.D (i, j))
def srv (B : Bw) (l : List Cel) (p : Cel) : Bool := (B.into p.1 p.2).any fun q => decide (q.1 ∈ l) && (decide (B.inB q.1 ∧ B.inB p) && decide (B.D q.1 + q.2 = B.D p))
theorem srv_iff {B : Bw} {l : List Cel} {p : Cel} : srv B l p = true ↔ ∃ q ∈ l, B.T q p := by
  unfold srv
  rw [List.any_eq_true]
  constructor
  · rintro ⟨⟨q, c⟩, hm, hx⟩
    simp only [Bool.and_eq_true, decide_eq_true_eq] at hx
    exact ⟨q, hx.1, c, ⟨hm, hx.2.1⟩, hx.2.2⟩
  · rintro ⟨q, hq, c, ⟨hm, hx⟩, hd⟩
    exact ⟨(q, c), hm, by simp [hq, hx, hd]⟩
theorem ways3_any {B : Bw} {l : List Cel} {i j : Nat} (hl : ∀ q ∈ l, B.inB q) (hij : B.inB (i, j)) : (ways3 B i j).any (tst3 B l i j) = srv B l (i, j) := by
  rw [Bool.eq_iff_iff, List.any_eq_true, srv_iff]
  constructor
  · rintro ⟨w, hw, ht⟩
    obtain ⟨q, hq, e1, e2, e3⟩ := of_decide_eq_true ht
    refine ⟨q, hq, w.2.2, ⟨?_, hl q hq, hij⟩, e3⟩
    unfold ways3 at hw
    rw [List.mem_append] at hw
    simp only [List.mem_cons, List.not_mem_nil, or_false] at hw
    rcases hw with (rfl | rfl) | hw
    · simp only at e1 e2 ⊢
      exact d7.mpr (.inr (.inl ⟨by first | omega | (simp only; omega), Prod.ext (by simp only; omega) (by simp only; omega), rfl⟩))
    · simp only at e1 e2 ⊢
      exact d7.mpr (.inr (.inr ⟨by first | omega | (simp only; omega), Prod.ext (by simp only; omega) (by simp only; omega), rfl⟩))
    · split at hw
      · rename_i c
        simp only [Bool.and_eq_true, decide_eq_true_eq] at c
        simp only [List.mem_singleton] at hw
        subst hw
        simp only at e1 e2 ⊢
        exact d7.mpr (.inl ⟨c.1, c.2.1, c.2.2, Prod.ext (by simp only; omega) (by simp only; omega), rfl⟩)
      · cases hw
  · rintro ⟨q, hq, c, ⟨hm, _, _⟩, e3⟩
    rcases d7.mp hm with ⟨h1, h2, h3, rfl, rfl⟩ | ⟨h1, rfl, rfl⟩ | ⟨h1, rfl, rfl⟩ <;> simp only at *
    · refine ⟨((i : Int) - 1, (j : Int) - 1, 0), ?_, decide_eq_true ⟨_, hq, by simp only; omega, by simp only; omega, e3⟩⟩
      unfold ways3
      rw [if_pos (by simp [h1, h2, h3])]
      simp
    · refine ⟨((i : Int) - 1, (j : Int), B.a), ?_, decide_eq_true ⟨_, hq, by simp only; omega, rfl, e3⟩⟩
      unfold ways3
      simp
    · refine ⟨((i : Int), (j : Int) - 1, B.b), ?_, decide_eq_true ⟨_, hq, rfl, by simp only; omega, e3⟩⟩
      unfold ways3
      simp
theorem serve_cell {ad : Ad} {D : LEnds} {h0 h : EH} {B : Bw} {L R : List Int} {p : Cel} {r b0 t0 : Nat} {l : List Cel} {i j : Nat} {x9 x10 x11 x12 : Option EV} (S : SmOk B L R) (z : d9 h0 b0 t0 r L.length R.length B.g.best) (k0 : aH no1 h0 h) (c : gH h h0.length (fun _ => .bl true) l) (nd : l.Nodup)
    (hl : ∀ q ∈ l, q.1 ≤ L.length ∧ q.2 ≤ R.length ∧ B.inB q) (n100 : L.length ≤ 100) (m100 : R.length ≤ 100) (hi : i ≤ L.length) (hj : j ≤ R.length) (hij : B.inB (i, j))
    (hk : ∀ (y9 : Option EV) h', aH no1 h0 h' → gH h' h0.length (fun _ => .bl true) (if srv B l (i, j) = true then insC (i, j) l else l) → D.nx [some (cE p), some (.ref r), some (tx L), some (tx R), some (abE B), some (.int B.lam), some (.ref h0.length), some (.int i), some (.int j), y9, x10, x11, x12] h') :
    lA ad D [some (cE p), some (.ref r), some (tx L), some (tx R), some (abE B), some (.int B.lam), some (.ref h0.length), some (.int i), some (.int j), x9, x10, x11, x12] h := by
  have sz : sizeLine = 16777216 := bG
  unfold lA
  rw [aD, aU]
  simp only [bR, aY, lOp, lC, aa, aq, ao, gZ, gS]
  refine iU (ia_t (x := .int B.a) rfl ⟨by rw [sz]; simp, ?_⟩)
  refine iU (ia_t (x := .int B.b) rfl ⟨by rw [sz]; simp, by rw [sz]; simp, ?_⟩)
  simp only [sZ, sS]
  have e1 : (h ++ [EO.lst [EV.tup [.int ((i : Int) - 1), .int j, .int B.a], .tup [.int i, .int ((j : Int) - 1), .int B.b]]])[h.length]? = some (.lst ([((i : Int) - 1, (j : Int), B.a), ((i : Int), (j : Int) - 1, B.b)].map wE3)) := bf
  have k1 : aH no1 h (h ++ [EO.lst [EV.tup [.int ((i : Int) - 1), .int j, .int B.a], .tup [.int i, .int ((j : Int) - 1), .int B.b]]]) := aH.app _
  have k01 := k0.trans k1
  have c1 : gH (h ++ [EO.lst [EV.tup [.int ((i : Int) - 1), .int j, .int B.a], .tup [.int i, .int ((j : Int) - 1), .int B.b]]]) h0.length (fun _ => .bl true) l := k1.at c
  have lw : h0.length ≠ h.length := by have := cC c; omega
  have lw0 : h0.length ≤ h.length := k0.1
  generalize h ++ [EO.lst [EV.tup [.int ((i : Int) - 1), .int j, .int B.a], .tup [.int i, .int ((j : Int) - 1), .int B.b]]] = h1 at e1 k01 c1 ⊢
  generalize h.length = rw_ at e1 lw lw0 ⊢
  have rest : ∀ (h2 : EH) (W : List Way3), W = ways3 B i j → aH no1 h0 h2 → gH h2 h0.length (fun _ => .bl true) l → h2[rw_]? = some (.lst (W.map wE3)) → iT ad D [some (cE p), some (.ref r), some (tx L), some (tx R), some (abE B), some (.int B.lam), some (.ref h0.length), some (.int i), some (.int j), some (.ref rw_), x10, x11, x12] h2 := by
    intro h2 W eW k2 c2 e2
    have lW : W.length ≤ 3 := by rw [eW]; unfold ways3; rw [List.length_append]; split <;> simp
    unfold iT
    rw [bB]
    simp only [lT, lCB, lLc, lIt, aa, aq, ao, gZ, gS, e2]
    refine jO wE3 (fun w => some (.bl (tst3 B l i j w))) W (by omega) (fun h' k => k.at e2) (fun w hw h' ky kn k hy hn => ?_) fun h3 k3 e3 => ?_
    · simp only [wE3, cH, Pat.bind, Pat.binds]
      simp only [sZ, sS, aZ, cY, if_true, bV, aY, lOp, aa, aq, ao, gZ, gS]
      refine ⟨by rw [sz]; simp, ?_⟩
      have c3 : gH h' h0.length (fun _ => .bl true) l := k.at c2
      have z3 := (z.keep k2).keep k
      refine c3.has false w.1 w.2.1 ?_
      rw [Bool.false_xor]
      by_cases hx : ∃ q ∈ l, (q.1 : Int) = w.1 ∧ (q.2 : Int) = w.2.1
      · rw [decide_eq_true hx]
        simp only [if_true]
        obtain ⟨q, hq, e1, e2⟩ := hx
        obtain ⟨q1, q2, q3⟩ := hl q hq
        rw [← e1, ← e2]
        refine z3.get q1 q2 ?_
        rw [(best_D S.ok q3).1]
        refine fU (z3.get hi hj ?_)
        rw [(best_D S.ok hij).1]
        refine eq_i ?_
        rw [Bool.false_xor]
        have : decide (B.D q + w.2.2 = B.D (i, j)) = tst3 B l i j w := by
          unfold tst3
          refine decide_eq_decide.mpr ⟨fun e => ⟨q, hq, e1, e2, e⟩, fun ⟨q', hq', f1, f2, f3⟩ => ?_⟩
          have : q' = q := Prod.ext (by omega) (by omega)
          rw [← this]; exact f3
        have : decide (B.D (q.1, q.2) + w.2.2 = B.D (i, j)) = tst3 B l i j w := this
        rw [this]
        exact hy _ rfl _ .refl
      · rw [decide_eq_false hx]
        simp only [Bool.false_eq_true, if_false]
        have : tst3 B l i j w = false := decide_eq_false fun ⟨q, hq, f1, f2, _⟩ => hx ⟨q, hq, f1, f2⟩
        rw [← this]
        exact hy _ rfl _ .refl
    · have fm : (W.filterMap fun w => some (EV.bl (tst3 B l i j w))) = (W.map (tst3 B l i j)).map EV.bl := by
        rw [List.filterMap_eq_map', List.map_map]; rfl
      rw [fm] at e3
      simp only [anyE, quE, e3]
      refine ⟨_, rfl, ?_⟩
      rw [List.any_map, Function.id_comp, eW, ways3_any (fun q hq => (hl q hq).2.2) hij]
      simp only [iZ]
      have k03 := k2.trans k3
      have c3 : gH h3 h0.length (fun _ => .bl true) l := k3.at c2
      cases hx : srv B l (i, j) with
      | true =>
        simp only [if_true]
        rw [bu]
        simp only [aY, lC, aa, aq, ao, gZ, gS]
        refine ⟨by rw [sz]; simp, ?_⟩
        refine c3.put (p := (i, j)) rfl (cs_lt nd (fun q hq => ⟨(hl q hq).1, (hl q hq).2.1⟩) n100 m100) ?_
        refine hk _ _ (k03.fresh (Nat.le_refl _)) ?_
        rw [if_pos hx]
        exact gK c3
      | false =>
        simp only [Bool.false_eq_true, if_false]
        try refine fM ?_
        have := hk (some (.ref rw_)) h3 k03 (by rw [if_neg (by rw [hx]; decide)]; exact c3)
        exact this
  unfold pZ
  try dsimp only
  rw [aD, bB]
  simp only [cV, lB, lOp, lC, ao, gZ, gS]
  refine gt_i ?_
  have no : (decide (0 < i) && (decide (0 < j) && B.sm (i - 1) (j - 1))) = false → iT ad D [some (cE p), some (.ref r), some (tx L), some (tx R), some (abE B), some (.int B.lam), some (.ref h0.length), some (.int i), some (.int j), some (.ref rw_), x10, x11, x12] h1 := fun hf =>
    rest h1 _ (by unfold ways3; rw [hf]; simp) k01 c1 e1
  by_cases g1 : 0 < i
  · rw [decide_eq_true (by omega)]
    simp only [if_true]
    refine gt_i ?_
    by_cases g2 : 0 < j
    · rw [decide_eq_true (by omega)]
      simp only [if_true]
      refine iU (ia_t (x := .int (L.getD (i - 1) 0)) (by rw [show (i : Int) - 1 = ((i - 1 : Nat) : Int) by omega]; exact tx_at (by omega)) ?_)
      refine iU (ia_t (x := .int (R.getD (j - 1) 0)) (by rw [show (j : Int) - 1 = ((j - 1 : Nat) : Int) by omega]; exact tx_at (by omega)) (eq_i ?_))
      rw [← S.s (i - 1) (j - 1) (by omega) (by omega), Bool.false_xor]
      cases g3 : B.sm (i - 1) (j - 1) with
      | true =>
        simp only [if_true]
        rw [bh]
        simp only [lBM, aY, lOp, lC, aa, aq, ao, gZ, gS]
        refine ⟨rH e1, ?_⟩
        refine iU (iU ⟨by rw [sz]; simp, ?_⟩)
        refine app_f e1 (by simp [bG]) ?_
        refine rest _ ([((i : Int) - 1, (j : Int), B.a), ((i : Int), (j : Int) - 1, B.b)] ++ [((i : Int) - 1, (j : Int) - 1, 0)]) ?_ (k01.fresh lw0) ?_ (gK e1)
        · unfold ways3
          rw [if_pos (show (decide (0 < i) && (decide (0 < j) && B.sm (i - 1) (j - 1))) = true by rw [g3]; simp [g1, g2])]
        · exact dO c1 lw
      | false =>
        simp only [Bool.false_eq_true, if_false]
        try refine fM ?_
        exact no (by rw [g3]; simp)
    · rw [decide_eq_false (by omega)]
      simp only [Bool.false_eq_true, if_false]
      try refine fM ?_
      exact no (by simp [g2])
  · rw [decide_eq_false (by omega)]
    simp only [Bool.false_eq_true, if_false]
    try refine fM ?_
    exact no (by simp [g1])
theorem jV {xs : List Int} {h : EH} {P : EK} (p : P (.int xs.length) h) : eG [tx xs] h P := by
  show P (.int (xs.map EV.int).length) h
  rw [List.length_map]; exact p
theorem loop_at {g : EH → Prop} {p : Pat} {tb : LS} {D : LEnds} (a n : Nat) (I : Nat → En → EH → Prop)
    (stop : ∀ env h, I (a + n) env h → g h ∧ D.nx env h)
    (turn : ∀ i env h (k : En → EH → Prop), a ≤ i → i < a + n → I i env h → (∀ env' h', I (i + 1) env' h' → k env' h') → g h ∧ cH h p (.int (i : Nat)) env fun env2 => tb { D with nx := k, ct := k, bk := D.nx } env2 h) :
    ∀ env h, I a env h → loopE g p tb D (eZ (a : Int) n) env h := by
  intro env h i0
  rw [rangeL_at]
  refine pD (fun left env h => ∃ i : Nat, a ≤ i ∧ i ≤ a + n ∧ left = (List.range' i (a + n - i)).map (fun (k : Nat) => EV.int k) ∧ I i env h) ?_ ?_ _ _ _ ⟨a, Nat.le_refl _, by omega, by rw [show a + n - a = n by omega], i0⟩
  · rintro env h ⟨i, ha, hi, el, z⟩
    have : i = a + n := by
      have := congrArg List.length el
      simp at this
      omega
    subst this
    exact stop env h z
  · rintro x left env h k ⟨i, ha, hi, el, z⟩ hk
    have hi2 : i < a + n := by
      have := congrArg List.length el
      simp at this
      omega
    rw [show a + n - i = (a + n - i - 1) + 1 by omega, List.range'_succ, List.map_cons, List.cons.injEq] at el
    obtain ⟨rfl, rfl⟩ := el
    exact turn i env h k ha hi2 z fun env' h' z' => hk env' h' ⟨i + 1, by omega, hi2, by rw [show a + n - (i + 1) = a + n - i - 1 by omega], z'⟩
structure SInv (B : Bw) (p : Cel) (n m : Nat) (l : List Cel) (done : Cel → Prop) : Prop where
  nd : l.Nodup
  pm : p ∈ l
  s : ∀ q ∈ l, B.Tr p q ∧ q.1 ≤ n ∧ q.2 ≤ m
  c : ∀ q : Cel, B.Tr p q → q.1 ≤ n → q.2 ≤ m → done q → q ∈ l
theorem SInv.sub {B : Bw} {p : Cel} {n m : Nat} {l : List Cel} {d d' : Cel → Prop} (I : SInv B p n m l d) (h : ∀ q : Cel, B.Tr p q → q.1 ≤ n → q.2 ≤ m → d' q → d q) : SInv B p n m l d' := ⟨I.nd, I.pm, I.s, fun q t h1 h2 h3 => I.c q t h1 h2 (h q t h1 h2 h3)⟩
theorem SInv.step {B : Bw} {p : Cel} {n m i j : Nat} {l : List Cel} {d : Cel → Prop} (I : SInv B p n m l d) (hi : i ≤ n) (hj : j ≤ m) (hd : ∀ q : Cel, q.1 ≤ i → q.2 ≤ j → q ≠ (i, j) → B.Tr p q → d q) : SInv B p n m (if srv B l (i, j) = true then insC (i, j) l else l) fun q => d q ∨ q = (i, j) := by
  by_cases h : srv B l (i, j) = true
  · rw [if_pos h]
    obtain ⟨x, hx, ht⟩ := srv_iff.mp h
    refine ⟨insC_nd I.nd, nQ.mpr (.inr I.pm), fun q hq => ?_, fun q t h1 h2 h3 => ?_⟩
    · rcases nQ.mp hq with rfl | hq
      · exact ⟨Tr_last.mpr (.inr ⟨x, (I.s x hx).1, ht⟩), hi, hj⟩
      · exact I.s q hq
    · rcases h3 with h3 | rfl
      · exact nQ.mpr (.inr (I.c q t h1 h2 h3))
      · exact nQ.mpr (.inl rfl)
  · rw [if_neg h]
    refine ⟨I.nd, I.pm, I.s, fun q t h1 h2 h3 => ?_⟩
    rcases h3 with h3 | rfl
    · exact I.c q t h1 h2 h3
    · rcases Tr_last.mp t with ⟨e, _⟩ | ⟨x, tx_, ht⟩
      · rw [← e]; exact I.pm
      · exfalso
        apply h
        refine srv_iff.mpr ⟨x, ?_, ht⟩
        have le : x.1 ≤ i ∧ x.2 ≤ j ∧ x ≠ (i, j) := by
          rcases T_cnt ht with ⟨e, _⟩ | ⟨e, _⟩ | ⟨e, _⟩ <;> simp only [Prod.mk.injEq] at e <;> refine ⟨by omega, by omega, fun z => ?_⟩ <;> rw [z] at e <;> simp only at e <;> omega
        exact I.c x tx_ (by omega) (by omega) (hd x le.1 le.2.1 le.2.2 tx_)
theorem pure_served_by (ad : Ad) (evs : List EV) (h : EH) (Q : EK) (q : nu ad evs h Q) : t_served_by ad (aM Q) (bF N_served_by evs) h := by
  obtain ⟨B, L, R, p, r, b0, t0, rfl, S, nn, mm, hp1, hp2, hpB, z, q⟩ := q
  have sz : sizeLine = 16777216 := bG
  show t_served_by_0 ad (aM Q) [some (cE p), some (.ref r), some (tx L), some (tx R), some (abE B), some (.int B.lam), none, none, none, none, none, none, none] h
  unfold t_served_by_0
  rw [aD, aU]
  simp only [lDispT, lC, ao, gZ, gS]
  refine ⟨bf, rfl, ?_⟩
  rw [qP]
  simp only [sZ, sS]
  have k1 : aH no1 h (h ++ [.dct [(cE p, .bl true)]]) := aH.app _
  have c1 : gH (h ++ [.dct [(cE p, .bl true)]]) h.length (fun _ => .bl true) [p] := bf
  generalize h ++ [.dct [(cE p, .bl true)]] = h1 at k1 c1 ⊢
  unfold t_served_by_1
  try dsimp only
  rw [aD, bW]
  simp only [bD, lCB, lOp, lC, aa, aq, ao, gZ, gS]
  refine ia_t (x := .int p.1) rfl (jV (fU ⟨by omega, ?_⟩))
  rw [show ((L.length : Int) + 1 - (p.1 : Int)).toNat = L.length + 1 - p.1 by omega]
  refine loop_at p.1 _ (fun i env h' => ∃ (l : List Cel) (x7 x8 x9 x10 x11 x12 : Option EV), aH no1 h h' ∧ gH h' h.length (fun _ => .bl true) l ∧ SInv B p L.length R.length l (fun q => q.1 < i) ∧ env = [some (cE p), some (.ref r), some (tx L), some (tx R), some (abE B), some (.int B.lam), some (.ref h.length), x7, x8, x9, x10, x11, x12]) ?_ ?_ _ _ ⟨[p], none, none, none, none, none, none, k1, c1, ⟨by simp, by simp, fun q hq => ?_, fun q t _ _ h3 => ?_⟩, rfl⟩
  · rintro env h2 ⟨l, x7, x8, x9, x10, x11, x12, k2, c2, I, rfl⟩
    refine ⟨trivial, ?_⟩
    unfold t_served_by_2
    try dsimp only
    rw [aW]
    simp only [ao, gZ, gS]
    exact q h.length l h2 k2 (Nat.le_refl _) c2 fun q h1 h3 => ⟨fun hq => (I.s q hq).1, fun t => I.c q t h1 h3 (by omega)⟩
  · rintro i env h2 kk hi1 hi2 ⟨l, x7, x8, x9, x10, x11, x12, k2, c2, I, rfl⟩ hkk
    refine ⟨trivial, cW ?_⟩
    simp only [sZ, sS]
    unfold t_served_by_1b_0
    rw [bW]
    simp only [bD, lCB, lOp, lC, aa, aq, ao, gZ, gS]
    refine ia_t (x := .int p.2) rfl (iU (mx_ii (k := ((max p.2 (i - B.lam) : Nat) : Int)) (by omega) ?_))
    refine jV (fU (mn_ii (k := ((min R.length (i + B.lam) : Nat) : Int)) (by omega) (fU ⟨by omega, ?_⟩)))
    generalize hlo : max p.2 (i - B.lam) = lo
    rw [show (((min R.length (i + B.lam) : Nat) : Int) + 1 - (lo : Int)).toNat = min R.length (i + B.lam) + 1 - lo by omega]
    refine loop_at lo _ (fun j env h' => ∃ (l : List Cel) (x8 x9 x10 x11 x12 : Option EV), aH no1 h h' ∧ gH h' h.length (fun _ => .bl true) l ∧ SInv B p L.length R.length l (fun q => q.1 < i ∨ (q.1 = i ∧ q.2 < j)) ∧ env = [some (cE p), some (.ref r), some (tx L), some (tx R), some (abE B), some (.int B.lam), some (.ref h.length), some (.int i), x8, x9, x10, x11, x12]) ?_ ?_ _ _ ⟨l, _, _, _, _, _, k2, c2, I.sub fun q t h1 h2 h3 => ?_, rfl⟩
    · rintro env h3 ⟨l3, x8, x9, x10, x11, x12, k3, c3, I3, rfl⟩
      refine ⟨trivial, hkk _ _ ⟨l3, _, _, _, _, _, _, k3, c3, I3.sub fun q t h1 h2 h4 => ?_, rfl⟩⟩
      have tin := Tr_in t
      have b2 := tin.2.1
      unfold Bw.inB at b2
      by_cases e : q.1 < i
      · exact .inl e
      · exact .inr ⟨by omega, by omega⟩
    · rintro j env h3 kk2 hj1 hj2 ⟨l3, x8, x9, x10, x11, x12, k3, c3, I3, rfl⟩ hkk2
      refine ⟨trivial, cW ?_⟩
      simp only [sZ, sS]
      have hj : j ≤ R.length := by omega
      have hi : i ≤ L.length := by omega
      have hij : B.inB (i, j) := by unfold Bw.inB; simp only; omega
      refine serve_cell S z k3 c3 I3.nd (fun q hq => ⟨(I3.s q hq).2.1, (I3.s q hq).2.2, (Tr_in (I3.s q hq).1).2.1⟩) nn mm hi hj hij fun y9 h4 k4 c4 => ?_
      refine hkk2 _ _ ⟨_, _, _, _, _, _, k4, c4, (I3.step hi hj fun q h1 h2 h3 t => ?_).sub fun q t h1 h2 h3 => ?_, rfl⟩
      · by_cases e : q.1 < i
        · exact .inl e
        · refine .inr ⟨by omega, ?_⟩
          rcases Nat.lt_or_ge q.2 j with c | c
          · exact c
          · exact absurd (Prod.ext (by simp only; omega) (by simp only; omega)) h3
      · rcases h3 with h3 | ⟨h3, h4⟩
        · exact .inl (.inl h3)
        · rcases Nat.lt_or_ge q.2 j with c | c
          · exact .inl (.inr ⟨h3, c⟩)
          · exact .inr (Prod.ext h3 (by simp only; omega))
    · rcases h3 with h3 | ⟨h3, h4⟩
      · exact h3
      · exfalso
        have tin := Tr_in t
        have b2 := tin.2.1
        unfold Bw.inB at b2
        omega
  · rw [List.mem_singleton] at hq
    subst hq
    exact ⟨⟨0, rfl, hpB⟩, hp1, hp2⟩
  · exfalso
    have := (Tr_in t).2.2.1
    omega
structure BInv (B : Bw) (n m : Nat) (l : List Cel) (done : Cel → Prop) : Prop where
  nd : l.Nodup
  o : (0, 0) ∈ l
  s : ∀ q ∈ l, B.inB q ∧ q.1 ≤ n ∧ q.2 ≤ m
  c : ∀ q : Cel, B.inB q → q.1 ≤ n → q.2 ≤ m → done q → q ∈ l
theorem BInv.sub {B : Bw} {n m : Nat} {l : List Cel} {d d' : Cel → Prop} (I : BInv B n m l d) (h : ∀ q : Cel, B.inB q → q.1 ≤ n → q.2 ≤ m → d' q → d q) : BInv B n m l d' := ⟨I.nd, I.o, I.s, fun q t h1 h2 h3 => I.c q t h1 h2 (h q t h1 h2 h3)⟩
theorem band_cell {ad : Ad} {D : LEnds} {h0 h : EH} {B : Bw} {L R : List Int} {l : List Cel} {i j : Nat} {d : Cel → Prop} {x7 x8 x9 : Option EV} (S : SmOk B L R) (k0 : aH no1 h0 h) (c : gH h h0.length (fun q => .int (B.D q)) l) (I : BInv B L.length R.length l d)
    (n100 : L.length ≤ 100) (m100 : R.length ≤ 100) (hi : i ≤ L.length) (hj : j ≤ R.length) (hij : B.inB (i, j)) (hd : ∀ q : Cel, q.1 ≤ i → q.2 ≤ j → q ≠ (i, j) → B.inB q → d q)
    (hk : ∀ (l' : List Cel) (y7 : Option EV) h', aH no1 h0 h' → gH h' h0.length (fun q => .int (B.D q)) l' → BInv B L.length R.length l' (fun q => d q ∨ q = (i, j)) → D.nx [some (tx L), some (tx R), some (abE B), some (.int B.lam), some (.ref h0.length), some (.int i), some (.int j), y7, x8, x9] h') :
    kZ ad D [some (tx L), some (tx R), some (abE B), some (.int B.lam), some (.ref h0.length), some (.int i), some (.int j), x7, x8, x9] h := by
  have sz : sizeLine = 16777216 := bG
  unfold kZ
  rw [aD, aU]
  simp only [lLc, lIt, aA, aa, aq, ao, gZ, gS]
  refine ⟨B, L, R, i, j, rfl, S, hi, hj, fun r1 h1 k1 l1 e1 => ?_⟩
  simp only [e1]
  have k01 := k0.trans k1
  have c1 : gH h1 h0.length (fun q => .int (B.D q)) l := k1.at c
  have li : (B.into i j).length ≤ 3 := by
    unfold Bw.into
    rw [List.length_append, List.length_append]
    split <;> split <;> split <;> simp
  refine jO inE (fun x => if x.1 ∈ l then some (.int (B.D x.1 + x.2)) else none) (B.into i j) (by omega) (fun h' k => k.at e1) (fun x hx h' ky kn k hy hn => ?_) fun h2 k2 e2 => ?_
  · simp only [inE, cH, Pat.bind, Pat.binds]
    simp only [sZ, sS, aZ, lB, lOp, ao, gZ, gS]
    have c2 : gH h' h0.length (fun q => .int (B.D q)) l := k.at c1
    refine c2.hasC false x.1 ?_
    rw [Bool.false_xor]
    by_cases hx : x.1 ∈ l
    · rw [decide_eq_true hx]
      simp only [if_true]
      refine c2.get hx (fU (hy _ (if_pos hx) _ .refl))
    · rw [decide_eq_false hx]
      simp only [Bool.false_eq_true, if_false]
      exact hn (if_neg hx) _ .refl
  obtain ⟨ns, hns⟩ : ∃ ns : List Int, ns = ((B.into i j).filter fun x => decide (x.1 ∈ l)).map fun x => B.D x.1 + x.2 := ⟨_, rfl⟩
  have fm : ((B.into i j).filterMap fun x => if x.1 ∈ l then some (EV.int (B.D x.1 + x.2)) else none) = ns.map EV.int := by
    rw [hns]
    clear li hns e2 e1
    induction B.into i j with
    | nil => rfl
    | cons x xs ih =>
      rw [List.filterMap_cons, List.filter_cons]
      by_cases hx : x.1 ∈ l
      · simp only [hx, if_true, decide_true, List.map_cons]
        rw [ih]
      · simp only [hx, if_false, decide_false, Bool.false_eq_true]
        exact ih
  rw [fm] at e2
  have k02 := k01.trans k2
  have c2 : gH h2 h0.length (fun q => .int (B.D q)) l := k2.at c1
  have lo : h0.length < h1.length := by have := cC c1; omega
  have mem : ∀ v ∈ ns, B.D (i, j) ≤ v := by
    intro v hv
    rw [hns] at hv
    obtain ⟨x, hx, rfl⟩ := List.mem_map.mp hv
    obtain ⟨hx1, hx2⟩ := List.mem_filter.mp hx
    exact E_le S.ok ⟨hx1, (I.s x.1 (of_decide_eq_true hx2)).1, hij⟩
  have some_ : (i, j) ≠ (0, 0) → B.D (i, j) ∈ ns := by
    intro n0
    obtain ⟨x, hx⟩ := T_some S.ok hij n0
    have inx := (T_in hx).1
    have le : x.1 ≤ i ∧ x.2 ≤ j ∧ x ≠ (i, j) := by
      rcases T_cnt hx with ⟨e, _⟩ | ⟨e, _⟩ | ⟨e, _⟩ <;> simp only [Prod.mk.injEq] at e <;> refine ⟨by omega, by omega, fun z => ?_⟩ <;> rw [z] at e <;> simp only at e <;> omega
    have xl : x ∈ l := I.c x inx (by omega) (by omega) (hd x le.1 le.2.1 le.2.2 inx)
    obtain ⟨cc, ⟨hm, _, _⟩, hdd⟩ := hx
    rw [hns]
    exact List.mem_map.mpr ⟨(x, cc), List.mem_filter.mpr ⟨hm, decide_eq_true xl⟩, hdd⟩
  simp only [sZ, sS]
  unfold ql
  try dsimp only
  rw [bB]
  simp only [lB, lOp, bR, aq, ao, gZ, gS, List.length_nil]
  refine ⟨by rw [sz]; decide, ?_⟩
  refine eqE_nil (ns := ns) (dF e2 _) bf ?_
  have k03 : aH no1 h0 (h2 ++ [EO.lst []]) := k02.trans (aH.app _)
  have c3 : gH (h2 ++ [EO.lst []]) h0.length (fun q => .int (B.D q)) l := dF c2 _
  have e3 : (h2 ++ [EO.lst []])[h1.length]? = some (.lst (ns.map EV.int)) := dF e2 _
  generalize h2 ++ [EO.lst []] = h3 at k03 c3 e3 ⊢
  by_cases hn : ns = []
  · rw [decide_eq_true hn]
    simp only [Bool.true_xor, Bool.not_true, Bool.false_eq_true, if_false]
    try refine fM ?_
    have e0 : (i, j) = (0, 0) := by
      by_cases e : (i, j) = (0, 0)
      · exact e
      · have := some_ e
        rw [hn] at this; cases this
    refine hk l (some (.ref h1.length)) h3 k03 c3 ⟨I.nd, I.o, I.s, fun q t h1 h2 h4 => ?_⟩
    rcases h4 with h4 | rfl
    · exact I.c q t h1 h2 h4
    · rw [e0]; exact I.o
  · rw [decide_eq_false hn]
    simp only [Bool.true_xor, Bool.not_false, if_true]
    rw [bu]
    simp only [lCB, aY, aa, aq, ao, gZ, gS, minE, e3]
    refine ⟨ns, rfl, hn, fun v hv hm => ?_⟩
    have ev : v = B.D (i, j) := by
      by_cases e : (i, j) = (0, 0)
      · obtain ⟨rfl, rfl⟩ := Prod.mk.inj e
        rw [hns] at hv
        have : B.into 0 0 = [] := by unfold Bw.into; simp
        rw [this] at hv
        cases hv
      · have := hm _ (some_ e)
        have := mem v hv
        omega
    subst ev
    refine ⟨by rw [sz]; simp, ?_⟩
    refine c3.put (p := (i, j)) rfl (cs_lt I.nd (fun q hq => ⟨(I.s q hq).2.1, (I.s q hq).2.2⟩) n100 m100) ?_
    refine hk (insC (i, j) l) _ _ (k03.fresh (Nat.le_refl _)) (gK c3) ⟨insC_nd I.nd, nQ.mpr (.inr I.o), fun q hq => ?_, fun q t h1 h2 h4 => ?_⟩
    · rcases nQ.mp hq with rfl | hq
      · exact ⟨hij, hi, hj⟩
      · exact I.s q hq
    · rcases h4 with h4 | rfl
      · exact nQ.mpr (.inr (I.c q t h1 h2 h4))
      · exact nQ.mpr (.inl rfl)
theorem pure__law_band (ad : Ad) (evs : List EV) (h : EH) (Q : EK) (q : qK ad evs h Q) : t__law_band ad (aM Q) (bF N__law_band evs) h := by
  obtain ⟨B, L, R, rfl, S, nn, mm, q⟩ := q
  have sz : sizeLine = 16777216 := bG
  have l12 := S.ok.l
  show t__law_band_0 ad (aM Q) [some (tx L), some (tx R), some (abE B), some (.int B.lam), none, none, none, none, none, none] h
  unfold t__law_band_0
  rw [aD, aU]
  simp only [lDispT, aY, lC, aa, aq, ao, gZ, gS]
  refine ⟨by rw [sz]; simp, bf, rfl, ?_⟩
  rw [qP]
  simp only [sZ, sS]
  have k1 : aH no1 h (h ++ [.dct [(.tup [.int 0, .int 0], .int 0)]]) := aH.app _
  have c1 : gH (h ++ [.dct [(.tup [.int 0, .int 0], .int 0)]]) h.length (fun q => .int (B.D q)) [(0, 0)] := by
    unfold gH
    rw [bf]
    show _ = some (EO.dct [(cE (0, 0), EV.int (B.D (0, 0)))])
    rw [D_zero]; rfl
  generalize h ++ [.dct [(.tup [.int 0, .int 0], .int 0)]] = h1 at k1 c1 ⊢
  unfold t__law_band_1
  try dsimp only
  rw [aD, bW]
  simp only [bx, lCB, lOp, lC, aa, aq, ao, gZ, gS]
  refine jV (fU ⟨by omega, ?_⟩)
  rw [show ((L.length : Int) + 1).toNat = L.length + 1 by omega]
  refine loop_nat (L.length + 1) (fun i env h' => ∃ (l : List Cel) (x5 x6 x7 x8 x9 : Option EV), aH no1 h h' ∧ gH h' h.length (fun q => .int (B.D q)) l ∧ BInv B L.length R.length l (fun q => q.1 < i) ∧ env = [some (tx L), some (tx R), some (abE B), some (.int B.lam), some (.ref h.length), x5, x6, x7, x8, x9]) ?_ ?_ _ _ ⟨[(0, 0)], none, none, none, none, none, k1, c1, ⟨by simp, by simp, fun q hq => ?_, fun q t _ _ h3 => ?_⟩, rfl⟩
  · rintro env h2 ⟨l, x5, x6, x7, x8, x9, k2, c2, I, rfl⟩
    refine ⟨trivial, ?_⟩
    unfold t__law_band_2
    try dsimp only
    rw [aW]
    simp only [ao, gZ, gS]
    exact q h.length l h2 k2 (Nat.le_refl _) c2 fun q => ⟨fun hq => ⟨(I.s q hq).2.1, (I.s q hq).2.2, (I.s q hq).1⟩, fun ⟨h1, h3, t⟩ => I.c q t h1 h3 (by omega)⟩
  · rintro i env h2 kk hi2 ⟨l, x5, x6, x7, x8, x9, k2, c2, I, rfl⟩ hkk
    refine ⟨trivial, cW ?_⟩
    simp only [sZ, sS]
    unfold t__law_band_1b_0
    rw [bW]
    simp only [bD, lCB, lOp, lC, aa, aq, ao, gZ, gS]
    refine iU (mx_ii (k := ((i - B.lam : Nat) : Int)) (by omega) ?_)
    refine jV (fU (mn_ii (k := ((min R.length (i + B.lam) : Nat) : Int)) (by omega) (fU ⟨by omega, ?_⟩)))
    generalize hlo : i - B.lam = lo
    rw [show (((min R.length (i + B.lam) : Nat) : Int) + 1 - (lo : Int)).toNat = min R.length (i + B.lam) + 1 - lo by omega]
    refine loop_at lo _ (fun j env h' => ∃ (l : List Cel) (x6 x7 x8 x9 : Option EV), aH no1 h h' ∧ gH h' h.length (fun q => .int (B.D q)) l ∧ BInv B L.length R.length l (fun q => q.1 < i ∨ (q.1 = i ∧ q.2 < j)) ∧ env = [some (tx L), some (tx R), some (abE B), some (.int B.lam), some (.ref h.length), some (.int i), x6, x7, x8, x9]) ?_ ?_ _ _ ⟨l, _, _, _, _, k2, c2, I.sub fun q t h1 h2 h3 => ?_, rfl⟩
    · rintro env h3 ⟨l3, x6, x7, x8, x9, k3, c3, I3, rfl⟩
      refine ⟨trivial, hkk _ _ ⟨l3, _, _, _, _, _, k3, c3, I3.sub fun q t h1 h2 h4 => ?_, rfl⟩⟩
      unfold Bw.inB at t
      by_cases e : q.1 < i
      · exact .inl e
      · exact .inr ⟨by omega, by omega⟩
    · rintro j env h3 kk2 hj1 hj2 ⟨l3, x6, x7, x8, x9, k3, c3, I3, rfl⟩ hkk2
      refine ⟨trivial, cW ?_⟩
      simp only [sZ, sS]
      have hj : j ≤ R.length := by omega
      have hi : i ≤ L.length := by omega
      have hij : B.inB (i, j) := by unfold Bw.inB; simp only; omega
      refine band_cell S k3 c3 I3 nn mm hi hj hij (fun q h1 h2 h3 t => ?_) fun l4 y7 h4 k4 c4 I4 => ?_
      · by_cases e : q.1 < i
        · exact .inl e
        · refine .inr ⟨by omega, ?_⟩
          rcases Nat.lt_or_ge q.2 j with c | c
          · exact c
          · exact absurd (Prod.ext (by simp only; omega) (by simp only; omega)) h3
      · refine hkk2 _ _ ⟨l4, _, _, _, _, k4, c4, I4.sub fun q t h1 h2 h3 => ?_, rfl⟩
        rcases h3 with h3 | ⟨h3, h4⟩
        · exact .inl (.inl h3)
        · rcases Nat.lt_or_ge q.2 j with c | c
          · exact .inl (.inr ⟨h3, c⟩)
          · exact .inr (Prod.ext h3 (by simp only; omega))
    · rcases h3 with h3 | ⟨h3, h4⟩
      · exact h3
      · exfalso
        unfold Bw.inB at t
        omega
  · rw [List.mem_singleton] at hq
    subst hq
    exact ⟨by unfold Bw.inB; simp, by simp, by simp⟩
  · exact absurd h3 (by omega)
def lQ (ad : Ad) : LSp := fun evs h Q => ∃ (B : Bw) (L R : List Int) (bd : Nat) (l : List Cel) (s : Cel), evs = [.ref bd, tx L, tx R, abE B, cE s, .int (-1)] ∧ SmOk B L R ∧ L.length ≤ 62 ∧ R.length ≤ 62 ∧ gH h bd (fun q => .int (B.D q)) l ∧ (∀ q : Cel, q ∈ l ↔ q.1 ≤ L.length ∧ q.2 ≤ R.length ∧ B.inB q) ∧ s ∈ l ∧
  ∀ (d : Nat) (f : List Cel) h', aH no1 h h' → h.length ≤ d → gH h' d (fun _ => .bl true) f → f.Nodup → (∀ q : Cel, q ∈ f ↔ B.Tr q s) → Q (.ref d) h'
abbrev N__law_through : List Str := ["_law_band_here", "_law_left", "_law_right", "_law_pair_here", "_law_spot", "_law_since", "_law_found", "_law_front", "_law_turn", "_law_later", "_law_here", "_law_prev", "_law_price"]
def t__law_through_2 (ad : Ad) : LS :=
    aW (ao 6)
def qp (ad : Ad) : LS :=
    aU (lLc (lIt (lSortSetT (ao 9))) (.nm 11) (lB (lOp (inA true) (ao 11) (ao 6))) (ao 11) [11]) 7
def kW (ad : Ad) : LS :=
    bB (cV (lB (lOp (inA false) (ao 11) (ao 0))) (cV (lB (lOp (eqE false) (lOp bJ (lOp ixA (ao 0) (ao 11)) (ao 12)) (lOp ixA (ao 0) (ao 10)))) (lB (lOp gtE (lCB maxTE (aa (ao 11) (aq))) (ao 5)))))
      (bh (lBM "list" fX (ao 9) (aa (ao 11) (aq))))
      (aV)
def mZ (ad : Ad) : LS :=
    bW (lIt (aA (jj ad) (aa (ao 1) (aa (ao 2) (aa (ao 3) (aa (lOp ixA (ao 10) (lC (.int 0))) (aa (lOp ixA (ao 10) (lC (.int 1))) (aq)))))))) (.tp [.nm 11, .nm 12])
      (kW ad)
def jy (ad : Ad) : LS :=
    aD (bu (ao 6) (ao 10) (lC (.bl true))) <| mZ ad
def qm (ad : Ad) : LS :=
    aD (bW (lIt (ao 7)) (.nm 10)
      (jy ad)) <| qp ad
def qd (ad : Ad) : LS :=
    aD (aU (bR (aq)) 9) <| qm ad
def t__law_through_1 (ad : Ad) : LS :=
    aD (bW (bx (aa (lOp bJ (lOp bJ (lCB eG (aa (ao 1) (aq))) (lCB eG (aa (ao 2) (aq)))) (lC (.int 1))) (aq))) (.nm 8)
      (qd ad)) <| t__law_through_2 ad
def t__law_through_0 (ad : Ad) : LS :=
    aD (di (aY (aa (lDnewT) (aa (lOp oG (bR (aa (ao 4) (aq))) (lCB intOf (aa (lOp gtE (lCB maxTE (aa (ao 4) (aq))) (ao 5)) (aq)))) (aq)))) (.tp [.nm 6, .nm 7])) <| t__law_through_1 ad
def t__law_through (ad : Ad) : LS :=
    aD (di (aY (aa (lDnewT) (aa (lOp oG (bR (aa (ao 4) (aq))) (lCB intOf (aa (lOp gtE (lCB maxTE (aa (ao 4) (aq))) (ao 5)) (aq)))) (aq)))) (.tp [.nm 6, .nm 7])) <|
    aD (bW (bx (aa (lOp bJ (lOp bJ (lCB eG (aa (ao 1) (aq))) (lCB eG (aa (ao 2) (aq)))) (lC (.int 1))) (aq))) (.nm 8)
      (aD (aU (bR (aq)) 9) <|
    aD (bW (lIt (ao 7)) (.nm 10)
      (aD (bu (ao 6) (ao 10) (lC (.bl true))) <|
    bW (lIt (aA (jj ad) (aa (ao 1) (aa (ao 2) (aa (ao 3) (aa (lOp ixA (ao 10) (lC (.int 0))) (aa (lOp ixA (ao 10) (lC (.int 1))) (aq)))))))) (.tp [.nm 11, .nm 12])
      (bB (cV (lB (lOp (inA false) (ao 11) (ao 0))) (cV (lB (lOp (eqE false) (lOp bJ (lOp ixA (ao 0) (ao 11)) (ao 12)) (lOp ixA (ao 0) (ao 10)))) (lB (lOp gtE (lCB maxTE (aa (ao 11) (aq))) (ao 5)))))
      (bh (lBM "list" fX (ao 9) (aa (ao 11) (aq))))
      (aV)))) <|
    aU (lLc (lIt (lSortSetT (ao 9))) (.nm 11) (lB (lOp (inA true) (ao 11) (ao 6))) (ao 11) [11]) 7)) <|
    aW (ao 6)
theorem len__law_through (ad : Ad) (evs : List EV) (h : EH) (Q : EK) (q : lQ ad evs h Q) : evs.length = ["_law_band_here", "_law_left", "_law_right", "_law_pair_here", "_law_spot", "_law_since"].length := by
  obtain ⟨_, _, _, _, _, _, rfl, _⟩ := q; rfl
def thrT (B : Bw) (l : List Cel) (here : Cel) (x : Cel × Int) : Bool := decide (x.1 ∈ l) && decide (B.D x.1 + x.2 = B.D here)
theorem thr_mem {B : Bw} {L R : List Int} {l : List Cel} (hl : ∀ q : Cel, q ∈ l ↔ q.1 ≤ L.length ∧ q.2 ≤ R.length ∧ B.inB q) {here : Cel} (hh : here ∈ l) (p : Cel) : p ∈ ((B.into here.1 here.2).filter (thrT B l here)).map (·.1) ↔ B.T p here := by
  rw [List.mem_map]
  constructor
  · rintro ⟨⟨q, c⟩, hx, rfl⟩
    obtain ⟨h1, h2⟩ := List.mem_filter.mp hx
    unfold thrT at h2
    simp only [Bool.and_eq_true, decide_eq_true_eq] at h2
    exact ⟨c, ⟨h1, ((hl q).mp h2.1).2.2, ((hl here).mp hh).2.2⟩, h2.2⟩
  · rintro ⟨c, ⟨hm, hp, _⟩, hd⟩
    have hb := (hl here).mp hh
    refine ⟨(p, c), List.mem_filter.mpr ⟨hm, ?_⟩, rfl⟩
    unfold thrT
    have : p.1 ≤ here.1 ∧ p.2 ≤ here.2 := by
      rcases d7.mp hm with ⟨_, _, _, rfl, _⟩ | ⟨_, rfl, _⟩ | ⟨_, rfl, _⟩ <;> simp only <;> omega
    simp only [Bool.and_eq_true, decide_eq_true_eq]
    exact ⟨(hl p).mpr ⟨by omega, by omega, hp⟩, hd⟩
theorem thr_here {ad : Ad} {D : LEnds} {h0 h : EH} {B : Bw} {L R : List Int} {bd d w9 : Nat} {l xs f : List Cel} {here : Cel} {x4 x7 x8 x11 x12 : Option EV} (S : SmOk B L R) (n62 : L.length ≤ 62) (m62 : R.length ≤ 62) (cb : gH h0 bd (fun q => .int (B.D q)) l) (hl : ∀ q : Cel, q ∈ l ↔ q.1 ≤ L.length ∧ q.2 ≤ R.length ∧ B.inB q)
    (k0 : aH no1 h0 h) (ld : h0.length ≤ d) (lw : h0.length ≤ w9) (dw : d ≠ w9) (cF : gH h d (fun _ => .bl true) f) (nf : f.Nodup) (hf : ∀ q ∈ f, q ∈ l) (e9 : h[w9]? = some (.lst (xs.map cE))) (lx : xs.length ≤ 1000) (hh : here ∈ l)
    (hk : ∀ (y11 y12 : Option EV) h', aH no1 h0 h' → (∀ r o, r ≠ d → r ≠ w9 → h[r]? = some o → h'[r]? = some o) → gH h' d (fun _ => .bl true) (insC here f) → h'[w9]? = some (.lst ((xs ++ ((B.into here.1 here.2).filter (thrT B l here)).map (·.1)).map cE)) →
      D.nx [some (.ref bd), some (tx L), some (tx R), some (abE B), x4, some (.int (-1)), some (.ref d), x7, x8, some (.ref w9), some (cE here), y11, y12] h') :
    jy ad D [some (.ref bd), some (tx L), some (tx R), some (abE B), x4, some (.int (-1)), some (.ref d), x7, x8, some (.ref w9), some (cE here), x11, x12] h := by
  have sz : sizeLine = 16777216 := bG
  have hb := (hl here).mp hh
  unfold jy
  rw [aD, bu]
  simp only [lC, ao, gZ, gS]
  refine cF.put (p := here) rfl (cs_lt nf (fun q hq => ⟨((hl q).mp (hf q hq)).1, ((hl q).mp (hf q hq)).2.1⟩) (by omega) (by omega)) ?_
  have k1 : aH no1 h0 (h.set d (.dct (cKV (fun _ => .bl true) (insC here f)))) := k0.fresh ld
  have c1 : gH (h.set d (.dct (cKV (fun _ => .bl true) (insC here f)))) d (fun _ => .bl true) (insC here f) := gK cF
  have p1 : ∀ r o, r ≠ d → h[r]? = some o → (h.set d (.dct (cKV (fun _ => .bl true) (insC here f))))[r]? = some o := fun r o hr e => dO e hr
  have e91 := p1 w9 _ (fun z => dw z.symm) e9
  generalize h.set d (.dct (cKV (fun _ => .bl true) (insC here f))) = h1 at k1 c1 p1 e91 ⊢
  unfold mZ
  try dsimp only
  rw [bW]
  simp only [lIt, aA, lOp, lC, aa, aq, ao, gZ, gS]
  refine ia_t (x := .int here.1) rfl (ia_t (x := .int here.2) rfl ?_)
  refine ⟨B, L, R, here.1, here.2, rfl, S, hb.1, hb.2.1, fun r2 h2 k2 l2 e2 => ?_⟩
  simp only [srcE, e2]
  have lt1 := cC c1
  have lt9 := cC e91
  have li : (B.into here.1 here.2).length ≤ 3 := by
    unfold Bw.into
    rw [List.length_append, List.length_append]
    split <;> split <;> split <;> simp
  refine loop_on inE (B.into here.1 here.2) (fun pre post env h' => ∃ x11 x12 : Option EV, aH no1 h0 h' ∧ (∀ r o, r ≠ d → r ≠ w9 → h2[r]? = some o → h'[r]? = some o) ∧ gH h' d (fun _ => .bl true) (insC here f) ∧ h'[w9]? = some (.lst ((xs ++ (pre.filter (thrT B l here)).map (·.1)).map cE)) ∧ env = [some (.ref bd), some (tx L), some (tx R), some (abE B), x4, some (.int (-1)), some (.ref d), x7, x8, some (.ref w9), some (cE here), x11, x12]) ?_ ?_ _ _ ⟨x11, x12, k1.trans k2, fun _ _ _ _ e => e, k2.at c1, by simpa using k2.at e91, rfl⟩
  · rintro env h3 ⟨x11, x12, k3, p3, c3, e93, rfl⟩
    refine ⟨p3 r2 _ (by omega) (by omega) e2, ?_⟩
    exact hk _ _ h3 k3 (fun r o hr1 hr2 e => p3 r o hr1 hr2 (k2.at (p1 r o hr1 e))) c3 e93
  · rintro pre x post env h3 kk ex ⟨x11, x12, k3, p3, c3, e93, rfl⟩ hkk
    refine ⟨p3 r2 _ (by omega) (by omega) e2, ?_⟩
    simp only [inE, cH, Pat.bind, Pat.binds]
    simp only [sZ, sS]
    unfold kW
    rw [bB]
    simp only [cV, lB, lCB, lOp, aa, aq, ao, gZ, gS]
    have cb3 : gH h3 bd (fun q => .int (B.D q)) l := k3.at cb
    refine cb3.hasC false x.1 ?_
    rw [Bool.false_xor]
    have keep : thrT B l here x = false → kk [some (.ref bd), some (tx L), some (tx R), some (abE B), x4, some (.int (-1)), some (.ref d), x7, x8, some (.ref w9), some (cE here), some (cE x.1), some (.int x.2)] h3 := fun hf =>
      hkk _ _ ⟨_, _, k3, p3, c3, by rw [List.filter_append, List.filter_cons, hf]; simpa using e93, rfl⟩
    by_cases hx : x.1 ∈ l
    · rw [decide_eq_true hx]
      simp only [if_true]
      refine cb3.get hx (fU (cb3.get hh (eq_i ?_)))
      rw [Bool.false_xor]
      by_cases hd : B.D x.1 + x.2 = B.D here
      · rw [decide_eq_true hd]
        simp only [if_true]
        refine maxT_2 (gt_i ?_)
        rw [decide_eq_true (by omega)]
        simp only [if_true]
        rw [bh]
        simp only [lBM, aa, aq, ao, gZ, gS]
        refine ⟨rH e93, ?_⟩
        have lp : pre.length ≤ 3 := by have := congrArg List.length ex; simp at this; omega
        have lf := List.length_filter_le (thrT B l here) pre
        refine app_f e93 (by simp [bG]; omega) ?_
        have tt : thrT B l here x = true := by unfold thrT; simp [hx, hd]
        refine hkk _ _ ⟨_, _, k3.fresh lw, fun r o hr1 hr2 e => dO (p3 r o hr1 hr2 e) hr2, dO c3 dw, ?_, rfl⟩
        rw [gK e93, List.filter_append, List.filter_cons, tt]
        simp
      · rw [decide_eq_false hd]
        simp only [Bool.false_eq_true, if_false]
        try refine fM ?_
        exact keep (by unfold thrT; simp [hd])
    · rw [decide_eq_false hx]
      simp only [Bool.false_eq_true, if_false]
      try refine fM ?_
      exact keep (by unfold thrT; simp [hx])
theorem txl_cE (U : List Cel) : U.map cE = (U.map fun p : Cel => [(p.1 : Int), (p.2 : Int)]).map txl := by
  rw [List.map_map]
  exact List.map_congr_left fun p _ => rfl
theorem cel_inj {p q : Cel} (h : [(p.1 : Int), (p.2 : Int)] = [(q.1 : Int), (q.2 : Int)]) : p = q := by
  simp only [List.cons.injEq, and_true] at h
  exact Prod.ext (by omega) (by omega)
theorem cels_of {X : List Cel} : ∀ us : List (List Int), (∀ u ∈ us, u ∈ X.map fun p : Cel => [(p.1 : Int), (p.2 : Int)]) → ∃ U : List Cel, us = U.map (fun p : Cel => [(p.1 : Int), (p.2 : Int)]) ∧ ∀ p ∈ U, p ∈ X
  | [], _ => ⟨[], rfl, fun _ h => (by cases h)⟩
  | u :: us, h => by
    obtain ⟨U, rfl, hU⟩ := cels_of us fun u hu => h u (List.mem_cons_of_mem _ hu)
    obtain ⟨p, hp, rfl⟩ := List.mem_map.mp (h u List.mem_cons_self)
    exact ⟨p :: U, rfl, fun q hq => by
      rcases List.mem_cons.mp hq with rfl | hq
      · exact hp
      · exact hU q hq⟩
theorem pure__law_through (ad : Ad) (evs : List EV) (h : EH) (Q : EK) (q : lQ ad evs h Q) : t__law_through ad (aM Q) (bF N__law_through evs) h := by
  obtain ⟨B, L, R, bd, l, s, rfl, S, nn, mm, cb, hl, hs, q⟩ := q
  have sz : sizeLine = 16777216 := bG
  have ok := S.ok
  have hsb := (hl s).mp hs
  have inl : ∀ {t : Nat} {p : Cel}, B.N t p s → p ∈ l := fun {t p} hp => by
    have := N_le hp
    exact (hl p).mpr ⟨by omega, by omega, (N_in hp).1⟩
  show t__law_through_0 ad (aM Q) [some (.ref bd), some (tx L), some (tx R), some (abE B), some (cE s), some (.int (-1)), none, none, none, none, none, none, none] h
  unfold t__law_through_0
  rw [aD, di]
  simp only [aY, lDnewT, lCB, bR, lOp, aa, aq, ao, gZ, gS]
  refine ⟨by rw [sz]; simp, maxT_2 (gt_i ?_)⟩
  rw [decide_eq_true (by omega)]
  simp only [intOf, if_true]
  have e1 : (h ++ [EO.dct []] ++ [EO.lst [cE s]])[(h ++ [EO.dct []]).length]? = some (.lst [cE s]) := bf
  unfold oG
  simp only [e1]
  refine ⟨⟨by decide, by decide, by rw [sz]; simp⟩, by rw [sz]; simp, ?_⟩
  simp only [cH, Pat.bind, Pat.binds]
  simp only [sZ, sS]
  have k3 : aH no1 h (h ++ [EO.dct []] ++ [EO.lst [cE s]] ++ [EO.lst (lu 1 [cE s])]) := ((aH.app _).trans (aH.app _)).trans (aH.app _)
  have e3 : (h ++ [EO.dct []] ++ [EO.lst [cE s]] ++ [EO.lst (lu 1 [cE s])])[(h ++ [EO.dct []] ++ [EO.lst [cE s]]).length]? = some (.lst (([s] : List Cel).map cE)) := by
    rw [bf]
    rw [show lu 1 [cE s] = [cE s] by simp [lu]]
    rfl
  have c3 : gH (h ++ [EO.dct []] ++ [EO.lst [cE s]] ++ [EO.lst (lu 1 [cE s])]) h.length (fun _ => .bl true) [] := dF (dF bf _) _
  have lf3 : h.length < (h ++ [EO.dct []] ++ [EO.lst [cE s]]).length := by simp
  generalize (h ++ [EO.dct []] ++ [EO.lst [cE s]]).length = fr0 at e3 lf3 ⊢
  generalize h ++ [EO.dct []] ++ [EO.lst [cE s]] ++ [EO.lst (lu 1 [cE s])] = h3 at k3 e3 c3 ⊢
  unfold t__law_through_1
  try dsimp only
  rw [aD, bW]
  simp only [bx, lCB, lOp, lC, aa, aq, ao, gZ, gS]
  refine jV (jV (fU (fU ⟨by omega, ?_⟩)))
  rw [show ((L.length : Int) + (R.length : Int) + 1).toNat = L.length + R.length + 1 by omega]
  refine loop_nat _ (fun t env h' => ∃ (fr : Nat) (F f : List Cel) (x8 x9 x10 x11 x12 : Option EV), aH no1 h h' ∧ h.length < fr ∧ h'[fr]? = some (.lst (F.map cE)) ∧ F.Nodup ∧ (∀ p, p ∈ F ↔ B.N t p s) ∧ gH h' h.length (fun _ => .bl true) f ∧ f.Nodup ∧ (∀ p, p ∈ f ↔ ∃ u, u < t ∧ B.N u p s) ∧
    env = [some (.ref bd), some (tx L), some (tx R), some (abE B), some (cE s), some (.int (-1)), some (.ref h.length), some (.ref fr), x8, x9, x10, x11, x12]) ?_ ?_ _ _ ⟨fr0, [s], [], none, none, none, none, none, k3, lf3, e3, by simp, fun p => ?_, c3, by simp, fun p => ?_, rfl⟩
  · rintro env h4 ⟨fr, F, f, x8, x9, x10, x11, x12, k4, lf4, e4, nF, hF, c4, nf, hf, rfl⟩
    refine ⟨trivial, ?_⟩
    unfold t__law_through_2
    try dsimp only
    rw [aW]
    simp only [ao, gZ, gS]
    refine q h.length f h4 k4 (Nat.le_refl _) c4 nf fun p => ?_
    rw [hf]
    constructor
    · rintro ⟨u, _, hu⟩; exact ⟨u, hu⟩
    · rintro ⟨u, hu⟩
      have := (N_le hu).2.2
      exact ⟨u, by omega, hu⟩
  · rintro t env h4 kk ht ⟨fr, F, f, x8, x9, x10, x11, x12, k4, lf4, e4, nF, hF, c4, nf, hf, rfl⟩ hkk
    refine ⟨trivial, cW ?_⟩
    simp only [sZ, sS]
    have F5 : F.length ≤ 5 := front_len ok nF fun p hp => (hF p).mp hp
    unfold qd
    rw [aD, aU]
    simp only [bR, aq, List.length_nil]
    refine ⟨by rw [sz]; decide, ?_⟩
    simp only [sZ, sS]
    have k5 : aH no1 h (h4 ++ [EO.lst []]) := k4.trans (aH.app _)
    have e5 : (h4 ++ [EO.lst []])[h4.length]? = some (.lst (([] : List Cel).map cE)) := bf
    have c5 : gH (h4 ++ [EO.lst []]) h.length (fun _ => .bl true) f := dF c4 _
    have e45 : (h4 ++ [EO.lst []])[fr]? = some (.lst (F.map cE)) := dF e4 _
    have lw : h.length ≤ h4.length := k4.1
    have dw : h.length ≠ h4.length := by have := cC c4; omega
    have fw : fr ≠ h4.length := by have := cC e4; omega
    generalize h4.length = w9 at e5 lw dw fw ⊢
    generalize h4 ++ [EO.lst []] = h5 at k5 e5 c5 e45 ⊢
    unfold qm
    try dsimp only
    rw [aD, bW]
    simp only [lIt, ao, gZ, gS, srcE, e45]
    refine loop_on cE F (fun pre post env h' => ∃ (xs f' : List Cel) (x10 x11 x12 : Option EV), aH no1 h h' ∧ h'[fr]? = some (.lst (F.map cE)) ∧ h'[w9]? = some (.lst (xs.map cE)) ∧ xs.length ≤ 3 * pre.length ∧ (∀ p, p ∈ xs ↔ ∃ r ∈ pre, B.T p r) ∧ gH h' h.length (fun _ => .bl true) f' ∧ f'.Nodup ∧ (∀ p, p ∈ f' ↔ p ∈ f ∨ p ∈ pre) ∧
      env = [some (.ref bd), some (tx L), some (tx R), some (abE B), some (cE s), some (.int (-1)), some (.ref h.length), some (.ref fr), some (.int t), some (.ref w9), x10, x11, x12]) ?_ ?_ _ _ ⟨[], f, x10, x11, x12, k5, e45, e5, by simp, fun p => by simp, c5, nf, fun p => by simp, rfl⟩
    · rintro env h6 ⟨xs, f6, x10, x11, x12, k6, e6, e96, lx, hx, c6, nf6, hf6, rfl⟩
      refine ⟨e6, ?_⟩
      have hx1 : ∀ p, p ∈ xs ↔ B.N (t + 1) p s := fun p => by
        rw [hx]
        constructor
        · rintro ⟨r, hr, ht⟩; exact ⟨r, ht, (hF r).mp hr⟩
        · rintro ⟨r, ht, hr⟩; exact ⟨r, (hF r).mpr hr, ht⟩
      have lx15 : xs.length ≤ 15 := by omega
      unfold qp
      try dsimp only
      rw [aU]
      simp only [lLc, lIt, lSortSetT, ao, gZ, gS, e96]
      refine ⟨xs.map fun p : Cel => [(p.1 : Int), (p.2 : Int)], 2, 64, txl_cE xs, by rw [List.length_map]; omega, by decide, fun u hu => ?_, fun us nd hm _ => ?_⟩
      · obtain ⟨p, hp, rfl⟩ := List.mem_map.mp hu
        have := (hl p).mp (inl ((hx1 p).mp hp))
        refine ⟨rfl, fun m hm => ?_⟩
        simp only [List.mem_cons, List.not_mem_nil, or_false] at hm
        omega
      obtain ⟨U, rfl, hU⟩ := cels_of us fun u hu => (hm u).mp hu
      have nU : U.Nodup := L2.nodup_of_map nd
      have memU : ∀ p, p ∈ U ↔ p ∈ xs := fun p => ⟨hU p, fun hp => by
        obtain ⟨p', hp', e⟩ := List.mem_map.mp ((hm [(p.1 : Int), (p.2 : Int)]).mpr (List.mem_map.mpr ⟨p, hp, rfl⟩))
        rw [← cel_inj e]; exact hp'⟩
      rw [← txl_cE]
      simp only [srcE, bf]
      have k7 : aH no1 h (h6 ++ [EO.lst (U.map cE)]) := k6.trans (aH.app _)
      have e7 : (h6 ++ [EO.lst (U.map cE)])[h6.length]? = some (.lst (U.map cE)) := bf
      have c7 : gH (h6 ++ [EO.lst (U.map cE)]) h.length (fun _ => .bl true) f6 := dF c6 _
      have l7 : h.length < (h6 ++ [EO.lst (U.map cE)]).length := by have := cC c7; exact this
      generalize h6.length = r7 at e7 ⊢
      generalize h6 ++ [EO.lst (U.map cE)] = h7 at k7 e7 c7 l7 ⊢
      have U5 : U.length ≤ 5 := front_len ok nU fun p hp => (hx1 p).mp ((memU p).mp hp)
      refine jO cE (fun p => some (cE p)) U (by omega) (fun h' k => k.at e7) (fun p hp h' ky kn k hy hn => cW ?_) fun h8 k8 e8 => ?_
      · simp only [sZ, sS, aZ, lB, lOp, ao, gZ, gS]
        refine (show gH h' h.length (fun _ => .bl true) f6 from k.at c7).hasC true p ?_
        have : p ∉ f6 := fun hp6 => by
          have np := (hx1 p).mp ((memU p).mp hp)
          rcases (hf6 p).mp hp6 with h1 | h1
          · obtain ⟨u, hu, hn⟩ := (hf p).mp h1
            have := N_depth ok np hn
            omega
          · have := N_depth ok np ((hF p).mp h1)
            omega
        rw [decide_eq_false this]
        simp only [Bool.xor_false, if_true]
        exact hy _ rfl _ .refl
      rw [show (U.filterMap fun p => some (cE p)) = U.map cE by rw [List.filterMap_eq_map']] at e8
      simp only [sZ, sS]
      refine hkk _ _ ⟨h7.length, U, f6, _, _, _, _, _, k7.trans k8, l7, e8, nU, fun p => by rw [memU, hx1], k8.at c7, nf6, fun p => ?_, rfl⟩
      rw [hf6, hf, hF]
      constructor
      · rintro (⟨u, hu, hn⟩ | hn)
        · exact ⟨u, by omega, hn⟩
        · exact ⟨t, by omega, hn⟩
      · rintro ⟨u, hu, hn⟩
        rcases Nat.lt_or_ge u t with c | c
        · exact .inl ⟨u, c, hn⟩
        · have : u = t := by omega
          subst this
          exact .inr hn
    · rintro pre here post env h6 kk6 eF ⟨xs, f6, x10, x11, x12, k6, e6, e96, lx, hx, c6, nf6, hf6, rfl⟩ hkk6
      refine ⟨e6, cW ?_⟩
      simp only [sZ, sS]
      have hN : B.N t here s := (hF here).mp (by rw [eF]; simp)
      have lp : pre.length ≤ 5 := by have := congrArg List.length eF; simp at this; omega
      refine thr_here S nn mm cb hl k6 (Nat.le_refl _) lw dw c6 nf6 (fun p hp => ?_) e96 (by omega) (inl hN) fun y11 y12 h7 k7 p7 c7 e97 => ?_
      · rcases (hf6 p).mp hp with h1 | h1
        · obtain ⟨u, _, hn⟩ := (hf p).mp h1
          exact inl hn
        · exact inl ((hF p).mp (by rw [eF]; simp [h1]))
      · refine hkk6 _ _ ⟨_, _, _, _, _, k7, p7 fr _ (by omega) fw e6, e97, ?_, fun p => ?_, c7, insC_nd nf6, fun p => ?_, rfl⟩
        · rw [List.length_append, List.length_map, List.length_append, List.length_singleton]
          have h1 := List.length_filter_le (thrT B l here) (B.into here.1 here.2)
          have li : (B.into here.1 here.2).length ≤ 3 := by
            unfold Bw.into
            rw [List.length_append, List.length_append]
            split <;> split <;> split <;> simp
          omega
        · rw [List.mem_append, thr_mem hl (inl hN), hx]
          constructor
          · rintro (⟨r, hr, ht⟩ | ht)
            · exact ⟨r, by simp [hr], ht⟩
            · exact ⟨here, by simp, ht⟩
          · rintro ⟨r, hr, ht⟩
            rcases List.mem_append.mp hr with hr | hr
            · exact .inl ⟨r, hr, ht⟩
            · rw [List.mem_singleton] at hr
              subst hr
              exact .inr ht
        · rw [nQ, hf6, List.mem_append, List.mem_singleton]
          constructor
          · rintro (h1 | h1 | h1)
            · exact .inr (.inr h1)
            · exact .inl h1
            · exact .inr (.inl h1)
          · rintro (h1 | h1 | h1)
            · exact .inr (.inl h1)
            · exact .inr (.inr h1)
            · exact .inl h1
  · rw [List.mem_singleton]
    constructor
    · rintro rfl; exact ⟨rfl, hsb.2.2⟩
    · rintro ⟨e, _⟩; exact e
  · constructor
    · intro h; cases h
    · rintro ⟨u, hu, _⟩; omega
def AllC (V : Cel → EV → Prop) : List Cel → List EV → Prop
  | [], [] => True
  | x :: xs, v :: vs => V x v ∧ AllC V xs vs
  | _, _ => False
theorem AllC.snoc {V : Cel → EV → Prop} {x : Cel} {v : EV} (q : V x v) : ∀ {xs : List Cel} {vs : List EV}, AllC V xs vs → AllC V (xs ++ [x]) (vs ++ [v])
  | [], [], _ => ⟨q, trivial⟩
  | y :: ys, w :: ws, h => ⟨h.1, AllC.snoc q h.2⟩
  | [], _ :: _, h => h.elim
  | _ :: _, [], h => h.elim
theorem AllC.imp {V W : Cel → EV → Prop} (f : ∀ x v, V x v → W x v) : ∀ {xs : List Cel} {vs : List EV}, AllC V xs vs → AllC W xs vs
  | [], [], _ => trivial
  | y :: ys, w :: ws, h => ⟨f _ _ h.1, AllC.imp f h.2⟩
  | [], _ :: _, h => h.elim
  | _ :: _, [], h => h.elim
theorem lc_relC (V : Cel → EV → EH → Prop) {g : EH → Prop} {p : Pat} {te : LT} {env : En} {P : EK} {h : EH} (xs : List Cel) (hl : xs.length ≤ 1000000) (mono : ∀ x v h1 h2, V x v h1 → aH (is1 h.length) h1 h2 → V x v h2) (hg : ∀ h', aH no1 h h' → g h')
    (step : ∀ x ∈ xs, ∀ h' (ky : EK), h.length < h'.length → aH no1 h h' → (∀ v h2, V x v h2 → aH no1 h' h2 → ky v h2) → cH h' p (cE x) env fun env2 => te env2 h' ky)
    (fin : ∀ (vs : List EV) h', AllC (fun x v => V x v h') xs vs → aH no1 h h' → h'[h.length]? = some (.lst vs) → P (.ref h.length) h') : lcE g p cY te h.length env P (xs.map cE) (h ++ [.lst []]) := by
  refine lc_ind (fun left acc h' => ∃ pre post, xs = pre ++ post ∧ left = post.map cE ∧ aH no1 h h' ∧ AllC (fun x v => V x v h') pre acc ∧ acc.length = pre.length) ?stop ?turn _ [] _ bf ⟨[], xs, rfl, rfl, aH.app _, trivial, rfl⟩
  case stop =>
    rintro acc h' ⟨pre, post, ex, el, k, hv, hn⟩ e
    obtain rfl : post = [] := by simpa using el.symm
    rw [List.append_nil] at ex
    subst ex
    exact ⟨hg _ k, fin acc h' hv k e⟩
  case turn =>
    rintro x left acc h' ky kn ⟨pre, post, ex, el, k, hv, hn⟩ e hky hkn
    obtain ⟨z, post, rfl⟩ : ∃ c r, post = c :: r := by
      cases post with
      | nil => simp at el
      | cons c r => exact ⟨c, r, rfl⟩
    rw [List.map_cons, List.cons.injEq] at el
    obtain ⟨rfl, rfl⟩ := el
    refine ⟨hg _ k, ?_⟩
    have lx : xs.length = pre.length + (post.length + 1) := by rw [ex]; simp
    have q := step z (by rw [ex]; simp) h' ky (List.getElem?_eq_some_iff.mp e).1 k fun v h2 v1 k2 => hky v h2 (k2.at e) (by rw [bG]; omega)
      ⟨pre ++ [z], post, by rw [ex]; simp, rfl, (k.trans k2).fresh (Nat.le_refl _), (hv.imp fun x v hx => mono x v _ _ (mono x v _ _ hx k2.all) (aH.set rfl)).snoc (mono _ _ _ _ v1 (aH.set rfl)), by simp [hn]⟩
    unfold cH at q ⊢
    split at q
    · simpa [cY] using q
    · exact q.elim
def ThrAt (B : Bw) (b : Nat) (s : Cel) (v : EV) (h : EH) : Prop := ∃ (d : Nat) (f : List Cel), v = .ref d ∧ b < d ∧ gH h d (fun _ => .bl true) f ∧ f.Nodup ∧ ∀ q : Cel, q ∈ f ↔ B.Tr q s
def jZ (ad : Ad) : LSp := fun evs h Q => ∃ (B : Bw) (L R : List Int), evs = [tx L, tx R, abE B, .int B.lam, .int (-1)] ∧ SmOk B L R ∧ L.length ≤ 62 ∧ L.length = R.length ∧
  ∀ (r : Nat) (vs : List EV) h', aH no1 h h' → h.length ≤ r → h'[r]? = some (.lst vs) → AllC (fun s v => ThrAt B r s v h') (oO B.lam L.length) vs → Q (.ref r) h'
def jw (ad : Ad) : LSp := fun evs h Q => ∃ (B : Bw) (L R : List Int), evs = [tx L, tx R, abE B, .int B.lam] ∧ SmOk B L R ∧ L.length ≤ 62 ∧ L.length = R.length ∧
  ∀ (k : Nat) h', aH no1 h h' → B.WaitOf L.length k → Q (.int k) h'
abbrev N__law_traces : List Str := ["_law_left", "_law_right", "_law_pair_here", "_law_lag", "_law_since", "_law_band_here", "_law_spot"]
def ph (ad : Ad) : LS :=
    aD (aU (aA (qK ad) (aa (ao 0) (aa (ao 1) (aa (ao 2) (aa (ao 3) (aq)))))) 5) <|
    aW (lLc (lIt (aA (oU ad) (aa (lCB eG (aa (ao 0) (aq))) (aa (ao 3) (aq))))) (.nm 6) (cY) (aA (lQ ad) (aa (ao 5) (aa (ao 0) (aa (ao 1) (aa (ao 2) (aa (ao 6) (aa (ao 4) (aq)))))))) [6])
abbrev N__law_wait : List Str := ["_law_left", "_law_right", "_law_pair_here", "_law_lag", "_law_traces_here", "_law_fixed", "_law_spot", "_law_trace"]
def t__law_wait_2 (ad : Ad) : LS :=
    aW (lOp dY (lCB eG (aa (ao 0) (aq))) (lCB maxTE (aa (lLc (lIt (ao 5)) (.nm 6) (cY) (lCB maxTE (aa (ao 6) (aq))) [6]) (aq))))
def t__law_wait_1 (ad : Ad) : LS :=
    aD (lLockT (aU (lLc (lKeysT (lOp ixA (ao 4) (lC (.int 0)))) (.nm 6) (lB (lOp eqN (lLc (lIt (ao 4)) (.nm 7) (lB (lOp (inAT true) (ao 6) (ao 7))) (ao 7) [7]) (bR (aq)))) (ao 6) [6]) 5)) <| t__law_wait_2 ad
def t__law_wait_0 (ad : Ad) : LS :=
    aD (aU (aA (jZ ad) (aa (ao 0) (aa (ao 1) (aa (ao 2) (aa (ao 3) (aa (lOp dY (lC (.int 0)) (lC (.int 1))) (aq))))))) 4) <| t__law_wait_1 ad
def t__law_wait (ad : Ad) : LS :=
    aD (aU (aA (jZ ad) (aa (ao 0) (aa (ao 1) (aa (ao 2) (aa (ao 3) (aa (lOp dY (lC (.int 0)) (lC (.int 1))) (aq))))))) 4) <|
    aD (lLockT (aU (lLc (lKeysT (lOp ixA (ao 4) (lC (.int 0)))) (.nm 6) (lB (lOp eqN (lLc (lIt (ao 4)) (.nm 7) (lB (lOp (inAT true) (ao 6) (ao 7))) (ao 7) [7]) (bR (aq)))) (ao 6) [6]) 5)) <|
    aW (lOp dY (lCB eG (aa (ao 0) (aq))) (lCB maxTE (aa (lLc (lIt (ao 5)) (.nm 6) (cY) (lCB maxTE (aa (ao 6) (aq))) [6]) (aq))))
theorem len__law_traces (ad : Ad) (evs : List EV) (h : EH) (Q : EK) (q : jZ ad evs h Q) : evs.length = ["_law_left", "_law_right", "_law_pair_here", "_law_lag", "_law_since"].length := by
  obtain ⟨_, _, _, rfl, _⟩ := q; rfl
theorem len__law_wait (ad : Ad) (evs : List EV) (h : EH) (Q : EK) (q : jw ad evs h Q) : evs.length = ["_law_left", "_law_right", "_law_pair_here", "_law_lag"].length := by
  obtain ⟨_, _, _, rfl, _⟩ := q; rfl
theorem pure__law_traces (ad : Ad) (evs : List EV) (h : EH) (Q : EK) (q : jZ ad evs h Q) : ph ad (aM Q) (bF N__law_traces evs) h := by
  obtain ⟨B, L, R, rfl, S, n62, nm, q⟩ := q
  have sz : sizeLine = 16777216 := bG
  have l12 := S.ok.l
  show ph ad (aM Q) [some (tx L), some (tx R), some (abE B), some (.int B.lam), some (.int (-1)), none, none] h
  unfold ph
  rw [aD, aU]
  simp only [aA, aa, aq, ao, gZ, gS]
  refine ⟨B, L, R, rfl, S, by omega, by omega, fun d l h1 k1 l1 c1 hl => ?_⟩
  simp only [sZ, sS]
  rw [aW]
  simp only [lLc, lIt, aA, lCB, aa, aq, ao, gZ, gS]
  refine jV ⟨L.length, B.lam, rfl, by omega, by omega, fun r2 h2 k2 l2 e2 => ?_⟩
  simp only [srcE, e2]
  have c2 : gH h2 d (fun q => .int (B.D q)) l := k2.at c1
  have ls : (oO B.lam L.length).length ≤ 1000 := by unfold oO; simp; omega
  refine lc_relC (fun s v h' => ThrAt B h2.length s v h') _ (by omega) (fun x v h3 h4 hv k => ?_) (fun h' k => k.at e2) (fun s hs h' ky lh kk hy => cW ?_) fun vs h3 hv k3 e3 => ?_
  · obtain ⟨d, f, rfl, hd, cf, nf, hf⟩ := hv
    exact ⟨d, f, rfl, hd, k.other cf (by omega), nf, hf⟩
  · simp only [sZ, sS, aZ, aA, aa, aq, ao, gZ, gS]
    obtain ⟨h1, h2⟩ := spotsC_mem.mp hs
    exact ⟨B, L, R, d, l, s, rfl, S, n62, by omega, kk.at c2, hl, (hl s).mpr ⟨by omega, by omega, h2⟩, fun d' f h'' k' ld cf nf hf => hy _ _ ⟨d', f, rfl, by omega, cf, nf, hf⟩ k'⟩
  · exact q h2.length vs h3 ((k1.trans k2).trans k3) (by have := k1.1; have := k2.1; omega) e3 hv
theorem lockT_back89 {h h' : EH} {r : Nat} {kvs : List (EV × EV)} {od : Obj} {l0 : List (List L2.Key × V)} (e : h[r]? = some (.dct kvs)) (k : aH no1 (h.set r (.dlt od l0 kvs)) h') : h'[r]? = some (.dlt od l0 kvs) ∧ aH no1 h (h'.set r (.dct kvs)) := by
  have d0 := gK (o := EO.dlt od l0 kvs) e
  refine ⟨k.at d0, by simpa using k.1, fun x o hx _ => ?_⟩
  by_cases ex : x = r
  · subst ex
    rw [e] at hx
    cases hx
    exact gK (k.at d0)
  · rw [List.getElem?_set_ne (fun z => ex z.symm)]
    exact k.at (dO hx ex)
def lackV (h : EH) (p : Cel) (v : EV) : Option EV := match v with
  | .ref d => match h[d]? with
    | some (.dct kvs) => if dHasT kvs (cE p) = true then none else some v
    | _ => none
  | _ => none
theorem lack_nil {B : Bw} {h : EH} {b : Nat} {p : Cel} : ∀ {xs : List Cel} {vs : List EV}, AllC (fun s v => ThrAt B b s v h) xs vs → (vs.filterMap (lackV h p) = [] ↔ ∀ s ∈ xs, B.Tr p s)
  | [], [], _ => by simp
  | x :: xs, v :: vs, hv => by
    obtain ⟨⟨d, f, rfl, hd, cf, nf, hf⟩, hv⟩ := hv
    have ih := lack_nil (p := p) hv
    have e : lackV h p (.ref d) = if p ∈ f then none else some (.ref d) := by
      unfold lackV
      simp only [show h[d]? = some (.dct (cKV (fun _ => .bl true) f)) from cf, cKV_hasC]
      by_cases hp : p ∈ f <;> simp [hp]
    rw [List.filterMap_cons, e]
    by_cases hp : p ∈ f
    · rw [if_pos hp]
      simp only [ih]
      constructor
      · intro h1 s hs
        rcases List.mem_cons.mp hs with rfl | hs
        · exact (hf p).mp hp
        · exact h1 s hs
      · exact fun h1 s hs => h1 s (List.mem_cons_of_mem _ hs)
    · rw [if_neg hp]
      simp only [reduceCtorEq, false_iff]
      intro h1
      exact hp ((hf p).mpr (h1 x List.mem_cons_self))
  | [], _ :: _, h => h.elim
  | _ :: _, [], h => h.elim
theorem fm_if {P : Cel → List EV} : ∀ l : List Cel, (l.filterMap fun p => if P p = [] then some (cE p) else none) = (l.filter fun p => decide (P p = [])).map cE
  | [] => rfl
  | x :: xs => by
    rw [List.filterMap_cons, List.filter_cons, fm_if xs]
    by_cases hx : P x = []
    · simp only [hx, if_true, decide_true, List.map_cons]
    · simp only [hx, if_false, decide_false, Bool.false_eq_true]
theorem AllC.mem {V : Cel → EV → Prop} : ∀ {xs : List Cel} {vs : List EV}, AllC V xs vs → ∀ v ∈ vs, ∃ x ∈ xs, V x v
  | [], [], _, v, h => by cases h
  | x :: xs, w :: ws, h, v, hv => by
    rcases List.mem_cons.mp hv with rfl | hv
    · exact ⟨x, List.mem_cons_self, h.1⟩
    · obtain ⟨y, hy, z⟩ := AllC.mem h.2 v hv
      exact ⟨y, List.mem_cons_of_mem _ hy, z⟩
  | [], _ :: _, h, _, _ => h.elim
  | _ :: _, [], h, _, _ => h.elim
theorem AllC.length {V : Cel → EV → Prop} : ∀ {xs : List Cel} {vs : List EV}, AllC V xs vs → vs.length = xs.length
  | [], [], _ => rfl
  | x :: xs, w :: ws, h => by rw [List.length_cons, List.length_cons, h.2.length]
  | [], _ :: _, h => h.elim
  | _ :: _, [], h => h.elim
theorem pure__law_wait (ad : Ad) (evs : List EV) (h : EH) (Q : EK) (q : jw ad evs h Q) : t__law_wait ad (aM Q) (bF N__law_wait evs) h := by
  obtain ⟨B, L, R, rfl, S, n62, nm, q⟩ := q
  have sz : sizeLine = 16777216 := bG
  have l12 := S.ok.l
  show t__law_wait_0 ad (aM Q) [some (tx L), some (tx R), some (abE B), some (.int B.lam), none, none, none, none] h
  unfold t__law_wait_0
  rw [aD, aU]
  simp only [aA, lOp, lC, aa, aq, ao, gZ, gS]
  refine iU ⟨B, L, R, rfl, S, n62, nm, fun r vs h1 k1 l1 e1 hv => ?_⟩
  simp only [sZ, sS]
  have ls : (oO B.lam L.length).length ≤ 1000 := by unfold oO; simp; omega
  have lv := hv.length
  have spm : ∀ p : Cel, p ∈ oO B.lam L.length ↔ max p.1 p.2 = L.length ∧ B.inB p := fun p => spotsC_mem
  obtain ⟨s0, sr, es⟩ : ∃ s0 sr, oO B.lam L.length = s0 :: sr := by
    cases e : oO B.lam L.length with
    | nil =>
      have := (spm (L.length, L.length)).mpr ⟨by simp, by unfold Bw.inB; simp only; omega⟩
      rw [e] at this; cases this
    | cons a b => exact ⟨a, b, rfl⟩
  obtain ⟨v0, vr, rfl⟩ : ∃ v0 vr, vs = v0 :: vr := by
    cases vs with
    | nil => rw [es] at lv; cases lv
    | cons a b => exact ⟨a, b, rfl⟩
  have hv0 := hv
  rw [es] at hv0
  obtain ⟨⟨d0, f0, rfl, ld0, c0, nf0, hf0⟩, _⟩ := hv0
  have s0m := (spm s0).mp (by rw [es]; simp)
  have f0l : ∀ p ∈ f0, p.1 ≤ L.length ∧ p.2 ≤ R.length := fun p hp => by
    have := Tr_in ((hf0 p).mp hp)
    omega
  have f0n : f0.length ≤ 4000 := by
    have a1 := cs_len nf0 f0l
    have : (L.length + 1) * (R.length + 1) ≤ 63 * 63 := Nat.mul_le_mul (by omega) (by omega)
    omega
  unfold t__law_wait_1
  try dsimp only
  rw [aD, lLockT]
  refine ⟨d0, cKV (fun _ => .bl true) f0, c0, fun od l0 => ?_⟩
  have eL : (h1.set d0 (.dlt od l0 (cKV (fun _ => .bl true) f0)))[d0]? = some (.dlt od l0 (cKV (fun _ => .bl true) f0)) := gK c0
  have erL : (h1.set d0 (.dlt od l0 (cKV (fun _ => .bl true) f0)))[r]? = some (.lst (.ref d0 :: vr)) := dO e1 (by omega)
  have oL : ∀ x o, x ≠ d0 → h1[x]? = some o → (h1.set d0 (.dlt od l0 (cKV (fun _ => .bl true) f0)))[x]? = some o := fun x o hx e => dO e hx
  have back := fun {h' : EH} (k : aH no1 (h1.set d0 (.dlt od l0 (cKV (fun _ => .bl true) f0))) h') => lockT_back89 (od := od) (l0 := l0) c0 k
  have hlen : (h1.set d0 (.dlt od l0 (cKV (fun _ => .bl true) f0))).length = h1.length := by simp
  generalize h1.set d0 (.dlt od l0 (cKV (fun _ => .bl true) f0)) = hL at eL erL oL back hlen ⊢
  rw [aU]
  simp only [lLc, lKeysT, lOp, lC, ao, gZ, gS]
  refine ia_l erL at0 ?_
  simp only [eL]
  rw [show (cKV (fun _ => EV.bl true) f0).map (·.1) = f0.map cE by unfold cKV; rw [List.map_map]; rfl]
  refine jO cE (fun p => if ((EV.ref d0 :: vr).filterMap (lackV h1 p)) = [] then some (cE p) else none) f0 (by omega) (fun h' k => k.at eL) (fun p hp h' ky kn k hy hn => cW ?_) fun h2 k2 e2 => ?_
  · simp only [sZ, sS, aZ, lB, lOp, lLc, lIt, bR, aq, ao, gZ, gS, srcE, k.at erL, List.length_nil]
    have idm : (EV.ref d0 :: vr) = (EV.ref d0 :: vr).map id := by simp
    rw [idm]
    refine jO (id : EV → EV) (lackV h1 p) (EV.ref d0 :: vr) (by omega) (fun h'' k' => by rw [← idm]; exact k'.at (k.at erL)) (fun v hv1 h'' ky2 kn2 k' hy2 hn2 => cW ?_) fun h3 k3 e3 => ?_
    · simp only [id, sZ, sS, aZ, lB, lOp, ao, gZ, gS]
      obtain ⟨s, hs, d, f, rfl, ld, cf, nf, hf⟩ := hv.mem v hv1
      have ey : lackV h1 p (.ref d) = if p ∈ f then none else some (.ref d) := by
        unfold lackV
        simp only [show h1[d]? = some (.dct (cKV (fun _ => .bl true) f)) from cf, cKV_hasC]
        by_cases hp : p ∈ f <;> simp [hp]
      have ask : ∀ P : EK, P (.bl (!decide (p ∈ f))) h'' → inAT true (cE p) (.ref d) h'' P := fun P pp => by
        by_cases ed : d = d0
        · subst ed
          have ef : f = f0 := by
            have := cf.symm.trans c0
            have e2 : cKV (fun _ => EV.bl true) f = cKV (fun _ => EV.bl true) f0 := by injection (Option.some.inj this)
            have e3 := congrArg (List.map (fun x : EV × EV => x.1)) e2
            unfold cKV at e3
            rw [List.map_map, List.map_map] at e3
            have inj : ∀ a b : Cel, cE a = cE b → a = b := fun a b e => by
              unfold cE ptE at e
              simp only [EV.tup.injEq, List.cons.injEq, EV.int.injEq, and_true] at e
              exact Prod.ext (by omega) (by omega)
            exact (List.map_inj_right (f := cE) (fun a b e => inj a b e)).mp e3
          subst ef
          unfold inAT
          simp only [k'.at (k.at eL)]
          exact ⟨rfl, by rw [cKV_hasC, Bool.true_xor]; exact pp⟩
        · have c2 : gH h'' d (fun _ => .bl true) f := k'.at (k.at (oL d _ ed cf))
          unfold inAT
          simp only [show h''[d]? = some (.dct (cKV (fun _ => .bl true) f)) from c2]
          exact c2.hasC true p (by rw [Bool.true_xor]; exact pp)
      refine ask _ ?_
      by_cases hp : p ∈ f
      · rw [decide_eq_true hp]
        simp only [Bool.not_true, Bool.false_eq_true, if_false]
        exact hn2 (by rw [ey, if_pos hp]) _ .refl
      · rw [decide_eq_false hp]
        simp only [Bool.not_false, if_true]
        exact hy2 _ (by rw [ey, if_neg hp]) _ .refl
    · refine ⟨by rw [sz]; decide, ?_⟩
      refine eqN_l (dF e3 _) bf ?_
      by_cases hc : ((EV.ref d0 :: vr).filterMap (lackV h1 p)) = []
      · rw [decide_eq_true hc]
        simp only [if_true]
        exact hy _ (if_pos hc) _ (k3.trans (aH.app _))
      · rw [decide_eq_false hc]
        simp only [Bool.false_eq_true, if_false]
        exact hn (if_neg hc) _ (k3.trans (aH.app _))
  have b2 := back k2
  refine ⟨b2.1, ?_⟩
  have k12 := b2.2
  have rn : hL.length ≠ d0 := by rw [hlen]; have := cC c0; omega
  have e22 : (h2.set d0 (.dct (cKV (fun _ => .bl true) f0)))[hL.length]? = some (.lst (f0.filterMap fun p => if ((EV.ref d0 :: vr).filterMap (lackV h1 p)) = [] then some (cE p) else none)) := dO e2 rn
  generalize h2.set d0 (.dct (cKV (fun _ => .bl true) f0)) = h3 at k12 e22 ⊢
  generalize hL.length = r5 at e22 ⊢
  obtain ⟨F5, hF5⟩ : ∃ F5 : List Cel, F5 = f0.filter fun p => decide (((EV.ref d0 :: vr).filterMap (lackV h1 p)) = []) := ⟨_, rfl⟩
  have fm : (f0.filterMap fun p => if ((EV.ref d0 :: vr).filterMap (lackV h1 p)) = [] then some (cE p) else none) = F5.map cE := by
    rw [hF5]
    exact fm_if f0
  rw [fm] at e22
  have memF : ∀ p, p ∈ F5 ↔ ∀ s ∈ oO B.lam L.length, B.Tr p s := fun p => by
    rw [hF5, List.mem_filter, decide_eq_true_eq, lack_nil hv, hf0]
    exact ⟨fun h => h.2, fun h => ⟨h s0 (by rw [es]; simp), h⟩⟩
  have lF5 : F5.length ≤ 4000 := by rw [hF5]; exact Nat.le_trans (List.length_filter_le _ _) f0n
  simp only [sZ, sS]
  unfold t__law_wait_2
  try dsimp only
  rw [aW]
  simp only [lOp, lCB, lLc, lIt, aa, aq, ao, gZ, gS]
  refine jV ?_
  simp only [srcE, e22]
  refine jO cE (fun p => some (.int ((max p.1 p.2 : Nat) : Int))) F5 (by omega) (fun h' k => k.at e22) (fun p hp h' ky kn k hy hn => cW ?_) fun h4 k4 e4 => ?_
  · simp only [sZ, sS, aZ, cY, if_true, lCB, aa, aq, ao, gZ, gS]
    refine maxT_2 ?_
    rw [show max (p.1 : Int) (p.2 : Int) = ((max p.1 p.2 : Nat) : Int) by omega]
    exact hy _ rfl _ .refl
  have fm2 : (F5.filterMap fun p => some (EV.int ((max p.1 p.2 : Nat) : Int))) = (F5.map fun p : Cel => ((max p.1 p.2 : Nat) : Int)).map EV.int := by
    rw [List.filterMap_eq_map', List.map_map]; rfl
  rw [fm2] at e4
  have zero : (0, 0) ∈ F5 := (memF _).mpr fun s hs => Tr_zero S.ok _ s (Nat.le_refl _) ((spm s).mp hs).2
  refine .inr ?_
  simp only [maxE, e4]
  have ne : (F5.map fun p : Cel => ((max p.1 p.2 : Nat) : Int)) ≠ [] := by
    intro e
    rw [List.map_eq_nil_iff] at e
    rw [e] at zero; cases zero
  refine ⟨F5.map fun p : Cel => ((max p.1 p.2 : Nat) : Int), rfl, ne, fun m hm hx => ?_⟩
  obtain ⟨p, hp, rfl⟩ := List.mem_map.mp hm
  have fix : ∀ p ∈ F5, B.Fix L.length (max p.1 p.2) := fun p hp => by
    have hp := (memF p).mp hp
    refine ⟨p, rfl, ?_, fun q h1 h2 => hp q ((spm q).mpr ⟨h1, h2⟩)⟩
    exact (Tr_in (hp s0 (by rw [es]; simp))).1
  have le := Fix_le (fix p hp)
  refine iU ?_
  rw [show (L.length : Int) - ((max p.1 p.2 : Nat) : Int) = ((L.length - max p.1 p.2 : Nat) : Int) by omega]
  refine q _ h4 ((k1.trans k12).trans k4) ⟨max p.1 p.2, rfl, le, fix p hp, fun b' hb' => ?_⟩
  obtain ⟨p', rfl, _, h2⟩ := hb'
  have : p' ∈ F5 := (memF p').mpr fun s hs => h2 s ((spm s).mp hs).1 ((spm s).mp hs).2
  have := hx _ (List.mem_map.mpr ⟨p', this, rfl⟩)
  omega
def iW (ad : Ad) : LSp := fun evs h Q => ∃ (B : Bw) (L R : List Int), evs = [tx L, tx R, abE B, .int B.lam] ∧ SmOk B L R ∧ L.length ≤ 62 ∧ L.length = R.length ∧ LsOk (L ++ R) ∧
  ∀ (r : Nat) (f : Nat → Nat) h', aH no1 h h' → h.length ≤ r → h'[r]? = some (.lst (eE L.length fun t => some (f t : Int))) → (∀ t, t ≤ L.length → B.WaitOf t (f t)) → Q (.ref r) h'
abbrev N_waits : List Str := ["left", "right", "pair", "lag", "size", "rows", "found", "born", "point", "served", "many", "letter", "one"]
def t_waits_4 (ad : Ad) : LS :=
    aW (ao 6)
def rM (ad : Ad) : LS :=
    bB (cV (lB (lOp ltE (lOp dY (ao 10) (ao 7)) (lOp ixA (ao 6) (ao 10)))) (lT (lCB allE (aa (lLc (lIt (aA (iQ ad) (aa (ao 10) (aa (ao 3) (aq))))) (.nm 12) (cY) (lOp (inA false) (ao 12) (ao 9)) [12]) (aq)))))
      (bu (ao 6) (ao 10) (lOp dY (ao 10) (ao 7)))
      (aV)
def t_waits_3b_0b_1 (ad : Ad) : LS :=
    bW (bD (aa (ao 7) (aa (lOp bJ (ao 4) (lC (.int 1))) (aq)))) (.nm 10)
      (rM ad)
def t_waits_3b_0b_0 (ad : Ad) : LS :=
    aD (aU (aA (nu ad) (aa (ao 8) (aa (ao 5) (aa (ao 0) (aa (ao 1) (aa (ao 2) (aa (ao 3) (aq)))))))) 9) <| t_waits_3b_0b_1 ad
def t_waits_3b_0 (ad : Ad) : LS :=
    bW (lIt (aA (iQ ad) (aa (ao 7) (aa (ao 3) (aq))))) (.nm 8)
      (t_waits_3b_0b_0 ad)
def t_waits_3 (ad : Ad) : LS :=
    aD (bW (bD (aa (lC (.int 1)) (aa (lOp bJ (ao 4) (lC (.int 1))) (aq)))) (.nm 7)
      (t_waits_3b_0 ad)) <| t_waits_4 ad
def t_waits_2 (ad : Ad) : LS :=
    aD (aU (lLstRg1 (lOp bJ (ao 4) (lC (.int 1)))) 6) <| t_waits_3 ad
def t_waits_1 (ad : Ad) : LS :=
    aD (aU (aA (sp_grid ad) (aa (ao 0) (aa (ao 1) (aa (lMake ad.a_Prices (eX ad) (aa (lDc (lIt (bR (lStar (ao 0) (lStar (ao 1) (aq))))) (.nm 11) (cY) (ao 11) (ao 2) [11]) (aq))) (aa (aY (aa (lC (.str [108, 97, 103])) (aa (ao 3) (aq)))) (aq)))))) 5) <| t_waits_2 ad
def t_waits_0 (ad : Ad) : LS :=
    aD (aU (lCB eG (aa (ao 0) (aq))) 4) <| t_waits_1 ad
def t_waits (ad : Ad) : LS :=
    aD (aU (lCB eG (aa (ao 0) (aq))) 4) <|
    aD (aU (aA (sp_grid ad) (aa (ao 0) (aa (ao 1) (aa (lMake ad.a_Prices (eX ad) (aa (lDc (lIt (bR (lStar (ao 0) (lStar (ao 1) (aq))))) (.nm 11) (cY) (ao 11) (ao 2) [11]) (aq))) (aa (aY (aa (lC (.str [108, 97, 103])) (aa (ao 3) (aq)))) (aq)))))) 5) <|
    aD (aU (lLstRg1 (lOp bJ (ao 4) (lC (.int 1)))) 6) <|
    aD (bW (bD (aa (lC (.int 1)) (aa (lOp bJ (ao 4) (lC (.int 1))) (aq)))) (.nm 7)
      (bW (lIt (aA (iQ ad) (aa (ao 7) (aa (ao 3) (aq))))) (.nm 8)
      (aD (aU (aA (nu ad) (aa (ao 8) (aa (ao 5) (aa (ao 0) (aa (ao 1) (aa (ao 2) (aa (ao 3) (aq)))))))) 9) <|
    bW (bD (aa (ao 7) (aa (lOp bJ (ao 4) (lC (.int 1))) (aq)))) (.nm 10)
      (bB (cV (lB (lOp ltE (lOp dY (ao 10) (ao 7)) (lOp ixA (ao 6) (ao 10)))) (lT (lCB allE (aa (lLc (lIt (aA (iQ ad) (aa (ao 10) (aa (ao 3) (aq))))) (.nm 12) (cY) (lOp (inA false) (ao 12) (ao 9)) [12]) (aq)))))
      (bu (ao 6) (ao 10) (lOp dY (ao 10) (ao 7)))
      (aV))))) <|
    aW (ao 6)
theorem len_waits (ad : Ad) (evs : List EV) (h : EH) (Q : EK) (q : iW ad evs h Q) : evs.length = ["left", "right", "pair", "lag"].length := by
  obtain ⟨_, _, _, rfl, _⟩ := q; rfl
theorem d9.keepT89 {b t r n m S : Nat} {h h' : EH} {R : Tbl} (z : d9 h b t r n m R) (hS : t ≤ S) (k : aH (is1 S) h h') : d9 h' b t r n m R := by
  obtain ⟨rs, e, l, nd, nr, br, bq, zr⟩ := z
  exact ⟨rs, k.other e (by omega), l, nd, nr, br, bq, fun i q hq => k.other (zr i q hq) (by have := bq q (List.mem_of_getElem? hq); omega)⟩
def Bw.Srv (B : Bw) (p : Cel) (t : Nat) : Prop := ∀ q : Cel, max q.1 q.2 = t → B.inB q → B.Tr p q
theorem rowE_put {m j : Nat} {f g : Nat → Int} {v : Int} (h : ∀ t, g t = if t = j then v else f t) : (eE m fun t => some (f t)).set j (.int v) = eE m fun t => some (g t) := by
  refine List.ext_getElem? fun i => ?_
  unfold eE
  rw [List.getElem?_set]
  simp only [List.length_map, List.length_range, List.getElem?_map]
  by_cases e : j = i
  · subst e
    by_cases c : j < m + 1
    · rw [if_pos rfl, if_pos c, List.getElem?_range c]
      show some (EV.int v) = some (optE (some (g j)))
      rw [h, if_pos rfl]; rfl
    · rw [if_pos rfl, if_neg c, List.getElem?_eq_none (by simp; omega)]; rfl
  · rw [if_neg e]
    by_cases c : i < m + 1
    · rw [List.getElem?_range c]
      show some (optE (some (f i))) = some (optE (some (g i)))
      rw [h, if_neg (fun z => e z.symm)]
    · rw [List.getElem?_eq_none (by simp; omega)]; rfl
structure WInv (B : Bw) (n : Nat) (c : Nat → Nat) (done : Nat → Nat → Prop) : Prop where
  f : ∀ t, t ≤ n → B.Fix t (c t)
  m : ∀ t b, t ≤ n → done t b → b ≤ c t
theorem pure_waits (ad : Ad) (evs : List EV) (h : EH) (Q : EK) (q : iW ad evs h Q) : t_waits ad (aM Q) (bF N_waits evs) h := by
  obtain ⟨B, L, R, rfl, S, n62, nm, lk, q⟩ := q
  have sz : sizeLine = 16777216 := bG
  have ok := S.ok
  have l12 := ok.l
  have pk : PrOk (B.a, B.b) := ⟨ok.a.1, ok.a.2, ok.b.1, ok.b.2⟩
  show t_waits_0 ad (aM Q) [some (tx L), some (tx R), some (abE B), some (.int B.lam), none, none, none, none, none, none, none, none, none] h
  unfold t_waits_0
  rw [aD, aU]
  simp only [lCB, aa, aq, ao, gZ, gS]
  refine jV ?_
  simp only [sZ, sS]
  unfold t_waits_1
  try dsimp only
  rw [aD, aU]
  simp only [aA, lMake, lDc, lIt, bR, lStar, aY, lC, aa, aq, ao, gZ, gS, itemsE, tx, srcE]
  show (L.map EV.int ++ (R.map EV.int ++ [])).length ≤ sizeLine ∧ _
  have := lk.ln
  refine ⟨by simp [bG]; omega, ?_⟩
  simp only [bf]
  rw [List.append_nil, ← List.map_append]
  refine dc_uni (B.a, B.b) (L ++ R) (by omega) (fun _ => dF bf _) (fun x hx acc ky hy => ?_) ?_
  · simp only [cH, Pat.bind]
    simp only [sZ, sS, aZ, ao, gZ, gS]
    exact hy
  refine make_new (P := fun v h2 => [EV.str [108, 97, 103], EV.int B.lam].length ≤ sizeLine ∧ sp_grid ad [tx L, tx R, v, EV.tup [EV.str [108, 97, 103], EV.int B.lam]] h2 fun v h1 => t_waits_2 ad (aM Q) [some (tx L), some (tx R), some (abE B), some (.int B.lam), some (.int L.length), some v, none, none, none, none, none, none, none] h1) ((aH.app _).trans (aH.app _)) bf (lk.tab pk) (by rw [uni_len]; exact lk.nb) fun pr h1 k1 l1 er => ?_
  refine ⟨by simp [sizeLine], uniW (B.a, B.b) (.lag B.lam) L R, pr, rfl, er, by show L.length ≤ 1000; omega, by show R.length ≤ 1000; omega, fun r2 h2 k2 z2 => ?_⟩
  have bc : ∀ i j, i ≤ L.length → j ≤ R.length → (uniW (B.a, B.b) (.lag B.lam) L R).g.best i j = B.g.best i j := qZ (fun i j hi hj => (S.s i j hi hj).symm) (fun i hi => by
      show (cost (uniW (B.a, B.b) (.lag B.lam) L R).c (L.getD i 0)).1 = B.a
      rw [uniW_cost (List.mem_append_left _ (by rw [List.getD_eq_getElem?_getD, List.getElem?_eq_getElem hi]; exact List.getElem_mem _))]) (fun j hj => by
      show (cost (uniW (B.a, B.b) (.lag B.lam) L R).c (R.getD j 0)).2 = B.b
      rw [uniW_cost (List.mem_append_right _ (by rw [List.getD_eq_getElem?_getD, List.getElem?_eq_getElem hj]; exact List.getElem_mem _))]) (fun _ _ => rfl)
  have z2 : d9 h2 h1.length h2.length r2 L.length R.length B.g.best := d9.congr z2 bc
  have k02 : aH no1 h h2 := k1.trans k2
  unfold t_waits_2
  try dsimp only
  rw [aD, aU]
  simp only [lLstRg1, lOp, lC, ao, gZ, gS]
  refine fU ⟨by omega, ?_⟩
  simp only [sZ, sS]
  have er0 : eZ 0 ((L.length : Int) + 1).toNat = eE L.length fun t => some ((t : Nat) : Int) := by
    rw [show ((L.length : Int) + 1).toNat = L.length + 1 by omega, rangeL_nat, ← List.range_eq_range']
    rfl
  rw [er0]
  have k03 : aH no1 h (h2 ++ [EO.lst (eE L.length fun t => some ((t : Nat) : Int))]) := k02.trans (aH.app _)
  have z3 := z2.keep (aH.app [EO.lst (eE L.length fun t => some ((t : Nat) : Int))])
  have e3 : (h2 ++ [EO.lst (eE L.length fun t => some ((t : Nat) : Int))])[h2.length]? = some (.lst (eE L.length fun t => some ((t - 0 : Nat) : Int))) := bf
  have lF : h.length ≤ h2.length := k02.1
  have tF : h2.length ≤ h2.length := Nat.le_refl _
  generalize hrF : h2.length = rF at e3 lF tF z3 ⊢
  generalize h2 ++ [EO.lst (eE L.length fun t => some ((t : Nat) : Int))] = h3 at k03 z3 e3 ⊢
  unfold t_waits_3
  try dsimp only
  rw [aD, bW]
  simp only [bD, lOp, lC, aa, aq, ao, gZ, gS]
  refine fU ⟨by omega, ?_⟩
  rw [show ((L.length : Int) + 1 - 1).toNat = L.length by omega]
  refine loop_at 1 L.length (fun born env h' => ∃ (c : Nat → Nat) (x7 x8 x9 x10 x11 x12 : Option EV), aH (is1 rF) h3 h' ∧ h'[rF]? = some (.lst (eE L.length fun t => some ((t - c t : Nat) : Int))) ∧ WInv B L.length c (fun t b => b < born ∧ B.Fix t b) ∧
    env = [some (tx L), some (tx R), some (abE B), some (.int B.lam), some (.int L.length), some (.ref r2), some (.ref rF), x7, x8, x9, x10, x11, x12]) ?_ ?_ _ _ ⟨fun _ => 0, none, none, none, none, none, none, .refl, e3, ⟨fun t _ => Fix_zero ok t, fun t b _ hb => by omega⟩, rfl⟩
  · rintro env h4 ⟨c, x7, x8, x9, x10, x11, x12, k4, e4, I, rfl⟩
    refine ⟨trivial, ?_⟩
    unfold t_waits_4
    try dsimp only
    rw [aW]
    simp only [ao, gZ, gS]
    refine q rF (fun t => t - c t) h4 (keep_new k03 k4 lF) lF e4 fun t ht => ⟨c t, rfl, Fix_le (I.f t ht), I.f t ht, fun b' hb' => ?_⟩
    have := Fix_le hb'
    exact I.m t b' ht ⟨by omega, hb'⟩
  · rintro born env h4 kk hb1 hb2 ⟨c, x7, x8, x9, x10, x11, x12, k4, e4, I, rfl⟩ hkk
    refine ⟨trivial, cW ?_⟩
    simp only [sZ, sS]
    unfold t_waits_3b_0
    rw [bW]
    simp only [lIt, aA, aa, aq, ao, gZ, gS]
    refine ⟨born, B.lam, rfl, by omega, by omega, fun r5 h5 k5 l5 e5 => ?_⟩
    simp only [srcE, e5]
    have k35 := k4.trans k5.all
    have e45 := k5.at e4
    have n5 : r5 ≠ rF := by have := cC e4; omega
    have l35 : h3.length ≤ h5.length := k35.1
    refine loop_on cE (rimC B.lam born) (fun pre post env h' => ∃ (c : Nat → Nat) (x8 x9 x10 x11 x12 : Option EV), aH (is1 rF) h5 h' ∧ h'[rF]? = some (.lst (eE L.length fun t => some ((t - c t : Nat) : Int))) ∧ WInv B L.length c (fun t b => (b < born ∧ B.Fix t b) ∨ (b = born ∧ ∃ p ∈ pre, B.Srv p t)) ∧
      env = [some (tx L), some (tx R), some (abE B), some (.int B.lam), some (.int L.length), some (.ref r2), some (.ref rF), some (.int born), x8, x9, x10, x11, x12]) ?_ ?_ _ _ ⟨c, x8, x9, x10, x11, x12, .refl, e45, ⟨I.f, fun t b ht hd => ?_⟩, rfl⟩
    · rintro env h6 ⟨c6, x8, x9, x10, x11, x12, k6, e6, I6, rfl⟩
      refine ⟨k6.other e5 n5, ?_⟩
      refine hkk _ _ ⟨c6, _, _, _, _, _, _, k35.trans k6, e6, ⟨I6.f, fun t b ht hd => ?_⟩, rfl⟩
      rcases Nat.lt_or_ge b born with g | g
      · exact I6.m t b ht (.inl ⟨g, hd.2⟩)
      · have : b = born := by omega
        subst this
        obtain ⟨p, hp, hB, hs⟩ := hd.2
        exact I6.m t _ ht (.inr ⟨rfl, p, rimC_mem.mpr ⟨hp, hB⟩, hs⟩)
    · rintro pre p post env h6 kk6 ep ⟨c6, x8, x9, x10, x11, x12, k6, e6, I6, rfl⟩ hkk6
      refine ⟨k6.other e5 n5, cW ?_⟩
      simp only [sZ, sS]
      obtain ⟨hpm, hpB⟩ := rimC_mem.mp (show p ∈ rimC B.lam born by rw [ep]; simp)
      have k36 := k35.trans k6
      unfold t_waits_3b_0b_0
      rw [aD, aU]
      simp only [aA, aa, aq, ao, gZ, gS]
      refine ⟨B, L, R, p, r2, h1.length, rF, rfl, S, by omega, by omega, by omega, by omega, hpB, z3.keepT89 tF k36, fun d l h7 k7 l7 c7 hl7 => ?_⟩
      simp only [sZ, sS]
      have k37 := k36.trans k7.all
      have k57 := k6.trans k7.all
      have e7 := k7.at e6
      have nd : d ≠ rF := by have := cC e6; omega
      unfold t_waits_3b_0b_1
      try dsimp only
      rw [bW]
      simp only [bD, lOp, lC, aa, aq, ao, gZ, gS]
      refine fU ⟨by omega, ?_⟩
      rw [show ((L.length : Int) + 1 - (born : Int)).toNat = L.length + 1 - born by omega]
      have Sb : ∀ t, B.Srv p t → born ≤ t := fun t hs => by
        have := Tr_in (hs (t, t) (by simp) (by unfold Bw.inB; simp only; omega))
        simp only at this
        omega
      refine loop_at born _ (fun many env h' => ∃ (c : Nat → Nat) (x10 x11 x12 : Option EV), aH (is1 rF) h7 h' ∧ h'[rF]? = some (.lst (eE L.length fun t => some ((t - c t : Nat) : Int))) ∧ WInv B L.length c (fun t b => (b < born ∧ B.Fix t b) ∨ (b = born ∧ ((∃ p ∈ pre, B.Srv p t) ∨ (t < many ∧ B.Srv p t)))) ∧
        env = [some (tx L), some (tx R), some (abE B), some (.int B.lam), some (.int L.length), some (.ref r2), some (.ref rF), some (.int born), some (cE p), some (.ref d), x10, x11, x12]) ?_ ?_ _ _ ⟨c6, x10, x11, x12, .refl, e7, ⟨I6.f, fun t b ht hd => ?_⟩, rfl⟩
      · rintro env h8 ⟨c8, x10, x11, x12, k8, e8, I8, rfl⟩
        refine ⟨trivial, hkk6 _ _ ⟨c8, _, _, _, _, _, k57.trans k8, e8, ⟨I8.f, fun t b ht hd => ?_⟩, rfl⟩⟩
        rcases hd with hd | ⟨rfl, p', hp', hs⟩
        · exact I8.m t b ht (.inl hd)
        · rcases List.mem_append.mp hp' with hp' | hp'
          · exact I8.m t _ ht (.inr ⟨rfl, .inl ⟨p', hp', hs⟩⟩)
          · rw [List.mem_singleton] at hp'
            subst hp'
            exact I8.m t _ ht (.inr ⟨rfl, .inr ⟨by omega, hs⟩⟩)
      · rintro many env h8 kk8 hm1 hm2 ⟨c8, x10, x11, x12, k8, e8, I8, rfl⟩ hkk8
        refine ⟨trivial, cW ?_⟩
        simp only [sZ, sS]
        have hm : many ≤ L.length := by omega
        have cle := Fix_le (I8.f many hm)
        have next : ∀ (c9 : Nat → Nat) (x11 x12 : Option EV) h9, aH (is1 rF) h8 h9 → h9[rF]? = some (.lst (eE L.length fun t => some ((t - c9 t : Nat) : Int))) → (∀ t, t ≤ L.length → B.Fix t (c9 t)) → (∀ t, c8 t ≤ c9 t) → (B.Srv p many → born ≤ c9 many) →
            kk8 [some (tx L), some (tx R), some (abE B), some (.int B.lam), some (.int L.length), some (.ref r2), some (.ref rF), some (.int born), some (cE p), some (.ref d), some (.int many), x11, x12] h9 := by
          intro c9 x11 x12 h9 k9 e9 f9 m9 s9
          refine hkk8 _ _ ⟨c9, _, _, _, k8.trans k9, e9, ⟨f9, fun t b ht hd => ?_⟩, rfl⟩
          rcases hd with hd | ⟨rfl, hd | ⟨hd, hs⟩⟩
          · exact Nat.le_trans (I8.m t b ht (.inl hd)) (m9 t)
          · exact Nat.le_trans (I8.m t _ ht (.inr ⟨rfl, .inl hd⟩)) (m9 t)
          · by_cases g : t < many
            · exact Nat.le_trans (I8.m t _ ht (.inr ⟨rfl, .inr ⟨g, hs⟩⟩)) (m9 t)
            · have : t = many := by omega
              subst this
              exact s9 hs
        unfold rM
        rw [bB]
        simp only [cV, lB, lOp, ao, gZ, gS]
        refine iU (ia_l e8 ((lO _ _).trans (rowE_at hm)) (lt_i ?_))
        by_cases g : c8 many < born
        · rw [decide_eq_true (show (many : Int) - (born : Int) < ((many - c8 many : Nat) : Int) by omega)]
          simp only [if_true, lT, lCB, lLc, lIt, aA, aa, aq, ao, gZ, gS]
          refine ⟨many, B.lam, rfl, by omega, by omega, fun r9 h9 k9 l9 e9 => ?_⟩
          simp only [srcE, e9]
          have c9 : gH h9 d (fun _ => .bl true) l := k9.at (k8.other c7 nd)
          have lr := rimC_len B.lam many l12.2
          refine jO cE (fun x => some (.bl (decide (x ∈ l)))) (rimC B.lam many) (by omega) (fun h' k => k.at e9) (fun x hx h' ky kn k hy hn => cW ?_) fun h10 k10 e10 => ?_
          · simp only [sZ, sS, aZ, cY, if_true, lOp, ao, gZ, gS]
            refine (show gH h' d (fun _ => .bl true) l from k.at c9).hasC false x ?_
            rw [Bool.false_xor]
            exact hy _ rfl _ .refl
          have fm : ((rimC B.lam many).filterMap fun x => some (EV.bl (decide (x ∈ l)))) = ((rimC B.lam many).map fun x => decide (x ∈ l)).map EV.bl := by
            rw [List.filterMap_eq_map', List.map_map]; rfl
          rw [fm] at e10
          simp only [allE, quE, e10]
          refine ⟨_, rfl, ?_⟩
          have k810 := k9.trans k10
          have e810 := k810.at e8
          have iff : (((rimC B.lam many).map fun x => decide (x ∈ l)).all id) = true ↔ B.Srv p many := by
            rw [List.all_map, List.all_eq_true]
            constructor
            · intro h q h1 h2
              have := h q (rimC_mem.mpr ⟨h1, h2⟩)
              exact (hl7 q (by omega) (by omega)).mp (of_decide_eq_true this)
            · intro h x hx
              obtain ⟨h1, h2⟩ := rimC_mem.mp hx
              exact decide_eq_true ((hl7 x (by omega) (by omega)).mpr (h x h1 h2))
          simp only [iZ]
          cases hc : (((rimC B.lam many).map fun x => decide (x ∈ l)).all id) with
          | true =>
            have hs := iff.mp hc
            simp only [if_true]
            rw [bu]
            simp only [lOp, ao, gZ, gS]
            refine iU (setA_row e810 hm ?_)
            rw [show (many : Int) - (born : Int) = ((many - born : Nat) : Int) by omega]
            rw [rowE_put (g := fun t => ((t - (if t = many then born else c8 t) : Nat) : Int)) (fun t => by by_cases z : t = many <;> simp [z])]
            refine next (fun t => if t = many then born else c8 t) _ _ _ (k810.all.trans (aH.set rfl)) (gK e810) (fun t ht => ?_) (fun t => ?_) (fun _ => by simp)
            · by_cases z : t = many
              · simp only [z, if_true]
                exact ⟨p, hpm, hpB, hs⟩
              · simp only [z, if_false]
                exact I8.f t ht
            · by_cases z : t = many
              · simp only [z, if_true]
                omega
              · simp only [z, if_false]
                exact Nat.le_refl _
          | false =>
            simp only [Bool.false_eq_true, if_false]
            try refine fM ?_
            exact next c8 _ _ _ k810.all e810 I8.f (fun _ => Nat.le_refl _) (fun hs => by rw [iff.mpr hs] at hc; cases hc)
        · rw [decide_eq_false (show ¬ (many : Int) - (born : Int) < ((many - c8 many : Nat) : Int) by omega)]
          simp only [Bool.false_eq_true, if_false]
          try refine fM ?_
          exact next c8 _ _ _ .refl e8 I8.f (fun _ => Nat.le_refl _) (fun _ => by omega)
      · rcases hd with hd | ⟨rfl, hd | ⟨hd, hs⟩⟩
        · exact I6.m t b ht (.inl hd)
        · exact I6.m t _ ht (.inr ⟨rfl, hd⟩)
        · exact absurd (Sb t hs) (by omega)
    · rcases hd with hd | ⟨rfl, p, hp, _⟩
      · exact I.m t b ht hd
      · cases hp
def cD (ad : Ad) : LSp := fun evs h Q => ∃ (B : Bw) (L R : List Int), evs = [tx L, tx R, abE B, .int B.lam] ∧ SmOk B L R ∧ L.length ≤ 62 ∧ L.length = R.length ∧ LsOk (L ++ R) ∧ ∀ h', aH no1 h h' → Q (.bl true) h'
def eV (ad : Ad) : LSp := fun evs h Q => ∃ b : Nat, evs = [.ref b] ∧ cX h b ∧ ∀ h', aH (is1 b) h h' → cX h' b → Q (.bl true) h'
abbrev N__law_are_waits_right : List Str := ["_law_left", "_law_right", "_law_pair_here", "_law_lag", "_law_due", "_law_again", "_law_found", "_law_t"]
def lK (ad : Ad) : LS :=
    aW (lC (.bl true))
def jJ (ad : Ad) : LS :=
    bu (ao 6) (lC (.int 0)) (lC (.int 9))
def jM (ad : Ad) : LS :=
    aD (bh (lBM "list" fX (ao 6) (aa (lOp bJ (lOp ixA (ao 6) (lC (.int 0))) (lC (.int 1))) (aq)))) <| jJ ad
def jN (ad : Ad) : LS :=
    aD (bB (dB (lT (aA (dZ ad) (aa (ao 6) (aa (ao 4) (aq))))))
      (aW (lC (.bl false)))
      (aV)) <| jM ad
def jG (ad : Ad) : LS :=
    aD (aU (aA (iW ad) (aa (ao 0) (aa (ao 1) (aa (ao 2) (aa (ao 3) (aq)))))) 6) <| jN ad
def lJ (ad : Ad) : LS :=
    aD (bW (bx (aa (lC (.int 3)) (aq))) (.nm 5)
      (jG ad)) <| lK ad
def lG (ad : Ad) : LS :=
    aD (aU (lLc (bx (aa (lOp bJ (lCB eG (aa (ao 0) (aq))) (lC (.int 1))) (aq))) (.nm 7) (cY) (aA (jw ad) (aa (lSl (ao 0) (aJ none) (aJ (some (ao 7)))) (aa (lSl (ao 1) (aJ none) (aJ (some (ao 7)))) (aa (ao 2) (aa (ao 3) (aq)))))) [7]) 4) <| lJ ad
def nA (ad : Ad) : LS :=
    aD (aU (lLc (bx (aa (lOp bJ (lCB eG (aa (ao 0) (aq))) (lC (.int 1))) (aq))) (.nm 7) (cY) (aA (jw ad) (aa (lSl (ao 0) (aJ none) (aJ (some (ao 7)))) (aa (lSl (ao 1) (aJ none) (aJ (some (ao 7)))) (aa (ao 2) (aa (ao 3) (aq)))))) [7]) 4) <|
    aD (bW (bx (aa (lC (.int 3)) (aq))) (.nm 5)
      (aD (aU (aA (iW ad) (aa (ao 0) (aa (ao 1) (aa (ao 2) (aa (ao 3) (aq)))))) 6) <|
    aD (bB (dB (lT (aA (dZ ad) (aa (ao 6) (aa (ao 4) (aq))))))
      (aW (lC (.bl false)))
      (aV)) <|
    aD (bh (lBM "list" fX (ao 6) (aa (lOp bJ (lOp ixA (ao 6) (lC (.int 0))) (lC (.int 1))) (aq)))) <|
    bu (ao 6) (lC (.int 0)) (lC (.int 9)))) <|
    aW (lC (.bl true))
abbrev N__law_is_long_right : List Str := ["_law_bag_here", "_law_letters", "_law_pair_here", "_law_lag", "_law_ring", "_law_left", "_law_right", "_law_found", "_law_ticks", "_law_due", "_law_t"]
def mH (ad : Ad) : LS :=
    aW (bV (lOp (eqE false) (lCB eG (aa (ao 7) (aq))) (lC (.int 61))) (aA (dZ ad) (aa (lLc (lIt (ao 8)) (.nm 10) (cY) (lOp ixA (ao 7) (ao 10)) [10]) (aa (ao 9) (aq)))))
def nZ (ad : Ad) : LS :=
    aD (aU (lLc (lIt (ao 8)) (.nm 10) (cY) (aA (jw ad) (aa (lSl (ao 5) (aJ none) (aJ (some (ao 10)))) (aa (lSl (ao 6) (aJ none) (aJ (some (ao 10)))) (aa (ao 2) (aa (ao 3) (aq)))))) [10]) 9) <| mH ad
def nj (ad : Ad) : LS :=
    aD (di (aY (aa (aA (iW ad) (aa (ao 5) (aa (ao 6) (aa (ao 2) (aa (ao 3) (aq)))))) (aa (bR (aa (lOp bJ (lC (.int 13)) (aA (aP ad) (aa (ao 0) (aa (lC (.int 14)) (aq))))) (aa (lOp bJ (lC (.int 27)) (aA (aP ad) (aa (ao 0) (aa (lC (.int 32)) (aq))))) (aa (lC (.int 60)) (aq))))) (aq)))) (.tp [.nm 7, .nm 8])) <| nZ ad
def ou (ad : Ad) : LS :=
    aD (di (aY (aa (lSl (ao 4) (aJ none) (aJ (some (lC (.int 60))))) (aa (lSl (lSl (ao 4) (aJ (some (lOp bJ (lC (.int 1)) (aA (aP ad) (aa (ao 0) (aa (ao 3) (aq))))))) (aJ none)) (aJ none) (aJ (some (lC (.int 60))))) (aq)))) (.tp [.nm 5, .nm 6])) <| nj ad
def mW (ad : Ad) : LS :=
    aD (aU (lOp oG (aA (jm ad) (aa (ao 0) (aa (ao 1) (aa (lOp bJ (lC (.int 2)) (aA (aP ad) (aa (ao 0) (aa (lC (.int 3)) (aq))))) (aq))))) (lC (.int 40))) 4) <| ou ad
def mG (ad : Ad) : LS :=
    aD (di (aY (aa (aA (fj ad) (aa (ao 0) (aq))) (aa (aA (jo ad) (aa (ao 0) (aq))) (aa (lOp bJ (lC (.int 1)) (aA (aP ad) (aa (ao 0) (aa (lC (.int 2)) (aq))))) (aq))))) (.tp [.nm 1, .nm 2, .nm 3])) <| mW ad
def pF (ad : Ad) : LS :=
    aD (di (aY (aa (aA (fj ad) (aa (ao 0) (aq))) (aa (aA (jo ad) (aa (ao 0) (aq))) (aa (lOp bJ (lC (.int 1)) (aA (aP ad) (aa (ao 0) (aa (lC (.int 2)) (aq))))) (aq))))) (.tp [.nm 1, .nm 2, .nm 3])) <|
    aD (aU (lOp oG (aA (jm ad) (aa (ao 0) (aa (ao 1) (aa (lOp bJ (lC (.int 2)) (aA (aP ad) (aa (ao 0) (aa (lC (.int 3)) (aq))))) (aq))))) (lC (.int 40))) 4) <|
    aD (di (aY (aa (lSl (ao 4) (aJ none) (aJ (some (lC (.int 60))))) (aa (lSl (lSl (ao 4) (aJ (some (lOp bJ (lC (.int 1)) (aA (aP ad) (aa (ao 0) (aa (ao 3) (aq))))))) (aJ none)) (aJ none) (aJ (some (lC (.int 60))))) (aq)))) (.tp [.nm 5, .nm 6])) <|
    aD (di (aY (aa (aA (iW ad) (aa (ao 5) (aa (ao 6) (aa (ao 2) (aa (ao 3) (aq)))))) (aa (bR (aa (lOp bJ (lC (.int 13)) (aA (aP ad) (aa (ao 0) (aa (lC (.int 14)) (aq))))) (aa (lOp bJ (lC (.int 27)) (aA (aP ad) (aa (ao 0) (aa (lC (.int 32)) (aq))))) (aa (lC (.int 60)) (aq))))) (aq)))) (.tp [.nm 7, .nm 8])) <|
    aD (aU (lLc (lIt (ao 8)) (.nm 10) (cY) (aA (jw ad) (aa (lSl (ao 5) (aJ none) (aJ (some (ao 10)))) (aa (lSl (ao 6) (aJ none) (aJ (some (ao 10)))) (aa (ao 2) (aa (ao 3) (aq)))))) [10]) 9) <|
    aW (bV (lOp (eqE false) (lCB eG (aa (ao 7) (aq))) (lC (.int 61))) (aA (dZ ad) (aa (lLc (lIt (ao 8)) (.nm 10) (cY) (lOp ixA (ao 7) (ao 10)) [10]) (aa (ao 9) (aq)))))
theorem len__law_are_waits_right (ad : Ad) (evs : List EV) (h : EH) (Q : EK) (q : cD ad evs h Q) : evs.length = ["_law_left", "_law_right", "_law_pair_here", "_law_lag"].length := by
  obtain ⟨_, _, _, rfl, _⟩ := q; rfl
theorem len__law_is_long_right (ad : Ad) (evs : List EV) (h : EH) (Q : EK) (q : eV ad evs h Q) : evs.length = ["_law_bag_here"].length := by
  obtain ⟨_, rfl, _⟩ := q; rfl
theorem WaitOf_ex {B : Bw} (ok : B.Ok) (t : Nat) : ∃ k, B.WaitOf t k := by
  have key : ∀ k, (∀ b, B.Fix t b → b ≤ k) → ∃ b, B.Fix t b ∧ ∀ b', B.Fix t b' → b' ≤ b := by
    intro k
    induction k with
    | zero => exact fun h => ⟨0, Fix_zero ok t, h⟩
    | succ k ih =>
      intro h
      by_cases c : B.Fix t (k + 1)
      · exact ⟨k + 1, c, h⟩
      · exact ih fun b hb => by
          have := h b hb
          rcases Nat.lt_or_ge b (k + 1) with g | g
          · omega
          · have : b = k + 1 := by omega
            rw [this] at hb
            exact absurd hb c
  obtain ⟨b, hb, hm⟩ := key t fun b hb => Fix_le hb
  exact ⟨t - b, b, rfl, Fix_le hb, hb, hm⟩
theorem waits_fn {B : Bw} (ok : B.Ok) : ∃ wv : Nat → Nat, ∀ t, B.WaitOf t (wv t) := Classical.skolem.mp (WaitOf_ex ok)
theorem WaitOf.le {B : Bw} {t k : Nat} (h : B.WaitOf t k) : k ≤ t := by
  obtain ⟨b, rfl, _, _⟩ := h
  omega
theorem SmOk.take {B : Bw} {L R : List Int} (S : SmOk B L R) (t : Nat) : SmOk B (L.take t) (R.take t) := by
  refine ⟨S.ok, fun i j hi hj => ?_⟩
  rw [List.length_take] at hi hj
  rw [S.s i j (by omega) (by omega)]
  simp only [List.getD_eq_getElem?_getD]
  rw [List.getElem?_take_of_lt (by omega), List.getElem?_take_of_lt (by omega)]
theorem sl_tx {xs : List Int} {n : Nat} {h : EH} {P : EK} {env : En} {tt : LT} {i : Nat} (hx : env[i]? = some (some (tx xs))) (ht : ∀ P : EK, P (.int n) h → tt env h P) (p : P (tx (xs.take n)) h) : lSl (ao i) (aJ none) (aJ (some tt)) env h P := by
  simp only [lSl, aJ, ao, hx]
  refine ht _ ?_
  simp only [slE, rN]
  rw [← List.map_take]
  exact p
theorem setA_l89 {h : EH} {r j : Nat} {xs : List EV} {v : EV} {P : EH → Prop} (e : h[r]? = some (.lst xs)) (hj : j < xs.length) (p : P (h.set r (.lst (xs.set j v)))) : setA (.ref r) (.int j) v h P :=
  sa_l e (k := j) (by unfold ixN; rw [if_pos (by omega), if_pos (by omega)]; simp) p
theorem pure__law_are_waits_right (ad : Ad) (evs : List EV) (h : EH) (Q : EK) (q : cD ad evs h Q) : nA ad (aM Q) (bF N__law_are_waits_right evs) h := by
  obtain ⟨B, L, R, rfl, S, n62, nm, lk, q⟩ := q
  have sz : sizeLine = 16777216 := bG
  obtain ⟨wv, hwv⟩ := waits_fn S.ok
  show lG ad (aM Q) [some (tx L), some (tx R), some (abE B), some (.int B.lam), none, none, none, none] h
  unfold lG
  rw [aD, aU]
  simp only [lLc, bx, lCB, lOp, lC, aa, aq, ao, gZ, gS]
  refine jV (fU ⟨by omega, ?_⟩)
  rw [show ((L.length : Int) + 1).toNat = L.length + 1 by omega, rangeL_nat]
  refine jO (fun t : Nat => EV.int t) (fun t => some (.int (wv t))) (List.range' 0 (L.length + 1)) (by simp; omega) (fun _ _ => trivial) (fun t ht h' ky kn k hy hn => cW ?_) fun h1 k1 e1 => ?_
  · rw [List.mem_range'_1] at ht
    simp only [sZ, sS, aZ, cY, if_true, aA, aa]
    refine sl_tx (n := t) (by rfl) (fun P p => by simp only [ao, gZ, gS]; exact p) (sl_tx (n := t) (by rfl) (fun P p => by simp only [ao, gZ, gS]; exact p) ?_)
    simp only [aa, aq, ao, gZ, gS]
    have lt : (L.take t).length = t := by rw [List.length_take]; omega
    refine ⟨B, L.take t, R.take t, rfl, S.take t, by omega, by rw [List.length_take, List.length_take, nm], fun k h2 k2 hk => ?_⟩
    rw [lt] at hk
    rw [WaitOf.one hk (hwv t)]
    exact hy _ rfl _ k2
  have fm : ((List.range' 0 (L.length + 1)).filterMap fun t => some (EV.int (wv t))) = eE L.length fun t => some (wv t : Int) := by
    rw [List.filterMap_eq_map', ← List.range_eq_range']; rfl
  rw [fm] at e1
  simp only [sZ, sS]
  have n1 : h.length < h1.length := cC e1
  unfold lJ
  try dsimp only
  rw [aD, bW]
  simp only [bx, lC, aa, aq]
  refine ⟨⟨by decide, by decide⟩, ?_⟩
  refine loop_nat 3 (fun _ env h' => ∃ x5 x6 x7 : Option EV, aH no1 h h' ∧ h'[h.length]? = some (.lst (eE L.length fun t => some (wv t : Int))) ∧ env = [some (tx L), some (tx R), some (abE B), some (.int B.lam), some (.ref h.length), x5, x6, x7]) ?_ ?_ _ _ ⟨none, none, none, k1, e1, rfl⟩
  · rintro env h2 ⟨x5, x6, x7, k2, e2, rfl⟩
    refine ⟨trivial, ?_⟩
    unfold lK
    try dsimp only
    rw [aW]
    exact q h2 k2
  · rintro i env h2 kk hi ⟨x5, x6, x7, k2, e2, rfl⟩ hkk
    refine ⟨trivial, cW ?_⟩
    simp only [sZ, sS]
    unfold jG
    rw [aD, aU]
    simp only [aA, aa, aq, ao, gZ, gS]
    refine ⟨B, L, R, rfl, S, n62, nm, lk, fun r f h3 k3 l3 e3 hf => ?_⟩
    simp only [sZ, sS]
    have er : (eE L.length fun t => some (f t : Int)) = eE L.length fun t => some (wv t : Int) := by
      unfold eE
      refine List.map_congr_left fun t ht => ?_
      rw [List.mem_range] at ht
      show optE (some (f t : Int)) = optE (some (wv t : Int))
      rw [WaitOf.one (hf t (by omega)) (hwv t)]
    rw [er] at e3
    have e23 := k3.at e2
    have nr : r ≠ h.length := by have := cC e2; omega
    have ds : ∀ x, h3[x]? = some (.lst (eE L.length fun t => some (wv t : Int))) → DS h3 2 ((L.length + 1) * 42) (.ref x) (rowD L.length fun t => some (wv t : Int)) := fun x e => row_ds (n := 1) e fun t ht v hv => by
      cases hv
      have := WaitOf.le (hwv t)
      omega
    unfold jN
    try dsimp only
    rw [aD, bB]
    simp only [dB, lT, aA, aa, aq, ao, gZ, gS]
    refine alike_ok (ds r e3) (ds _ e23) (by decide) (by omega) ?_
    simp only [iZ, Bool.not_true, Bool.false_eq_true, if_false]
    try refine fM ?_
    unfold jM
    try dsimp only
    rw [aD, bh]
    simp only [lBM, lOp, lC, aa, aq, ao, gZ, gS]
    have k23 := k2.trans k3
    refine ⟨rH e3, ia_l e3 ((lO _ 0).trans (rowE_at (Nat.zero_le _))) (fU (app_f e3 (by rw [rowE_len, sz]; omega) ?_))⟩
    unfold jJ
    try dsimp only
    rw [bu]
    simp only [lC, ao, gZ, gS]
    have lr : h.length ≤ r := by have := k2.1; omega
    refine setA_l89 (j := 0) (gK e3) (by simp) ?_
    exact hkk _ _ ⟨_, _, _, (k23.fresh lr).fresh lr, dO (dO e23 nr.symm) nr.symm, rfl⟩
def bwOf (L R : List Int) (p : Int × Int) (lam : Nat) : Bw := ⟨fun i j => decide (L.getD i 0 = R.getD j 0), p.1, p.2, lam⟩
theorem bwOf_ok {L R : List Int} {p : Int × Int} {lam : Nat} (pk : PrOk p) (h1 : 1 ≤ lam) (h2 : lam ≤ 2) : SmOk (bwOf L R p lam) L R :=
  ⟨⟨⟨pk.1, pk.2⟩, ⟨pk.3, pk.4⟩, h1, h2⟩, fun _ _ _ _ => rfl⟩
theorem ls_ok {L R ns : List Int} (hl : ∀ m ∈ L, m ∈ ns) (hr : ∀ m ∈ R, m ∈ ns) (n4 : ns.length ≤ 4) (nr : ∀ n ∈ ns, 0 ≤ n ∧ n ≤ 1000000000) (ln : L.length + R.length ≤ 2000) : LsOk (L ++ R) := by
  have mem : ∀ x ∈ L ++ R, x ∈ ns := fun x hx => by
    rcases List.mem_append.mp hx with h | h
    · exact hl x h
    · exact hr x h
  refine ⟨by rw [List.length_append]; exact ln, fun x hx => nr x (mem x hx), ?_⟩
  have := nub_len mem
  omega
theorem repN_len89 {k : Nat} {xs : List Int} : (lu (k : Int) xs).length = k * xs.length := by
  unfold lu
  rw [List.length_flatten, List.map_replicate, List.sum_replicate_nat]
  simp
theorem pure__law_is_long_right (ad : Ad) (evs : List EV) (h : EH) (Q : EK) (q : eV ad evs h Q) : pF ad (aM Q) (bF N__law_is_long_right evs) h := by
  obtain ⟨b, rfl, B0, q⟩ := q
  have sz : sizeLine = 16777216 := bG
  show mG ad (aM Q) [some (.ref b), none, none, none, none, none, none, none, none, none, none] h
  unfold mG
  rw [aD, di]
  simp only [aY, aA, lOp, lC, aa, aq, ao, gZ, gS]
  refine ⟨b, rfl, B0, fun l ns h1 nd n0 n4 nr k1 l1 e1 B1 => ?_⟩
  have hb0 := B0.lt
  have lb : l ≠ b := by omega
  refine ⟨b, rfl, B1, fun p h2 pk p3 p4 k2 B2 => ?_⟩
  refine take_n 2 B2 rfl (by decide) (by decide) fun d h3 hd k3 B3 => fU ⟨by rw [sz]; simp, ?_⟩
  have e13 := k3.other (k2.other e1 lb) lb
  have k03 : aH (is1 b) h h3 := k1.trans (k2.trans k3)
  obtain ⟨lam, elam, lam1, lam2⟩ : ∃ lam : Nat, (1 : Int) + (d : Int) = (lam : Int) ∧ 1 ≤ lam ∧ lam ≤ 2 := ⟨1 + d, by omega, by omega, by omega⟩
  rw [elam]
  simp only [cH, Pat.bind, Pat.binds]
  simp only [sZ, sS]
  unfold mW
  try dsimp only
  rw [aD, aU]
  simp only [lOp, aA, lC, aa, aq, ao, gZ, gS]
  refine take_n 3 B3 rfl (by decide) (by decide) fun d2 h4 hd2 k4 B4 => fU ?_
  have e14 := k4.other e13 lb
  refine ⟨b, l, 2 + d2, ns, by rw [show (2 : Int) + (d2 : Int) = ((2 + d2 : Nat) : Int) by omega], e14, by intro e; rw [e] at n0; exact absurd n0 (by decide), by omega, lb, by omega, B4, fun ms h5 lm mm k5 B5 => ?_⟩
  have k05 := k03.trans (k4.trans k5)
  have ne : ms ≠ [] := by intro e; rw [e] at lm; simp at lm; omega
  unfold oG
  refine ⟨⟨by simpa using ne, by decide, by decide, by rw [List.length_map]; omega⟩, ?_⟩
  rw [repN_map]
  have lring : (lu 40 ms).length = 40 * (2 + d2) := by
    have := repN_len89 (k := 40) (xs := ms)
    rw [lm] at this
    exact this
  have mring : ∀ m ∈ lu 40 ms, m ∈ ns := fun m hm => mm m (repN_mem hm)
  generalize lu 40 ms = ring at lring mring ⊢
  simp only [sZ, sS]
  unfold ou
  try dsimp only
  rw [aD, di]
  have e60 : ∀ {α : Type} (xs : List α), cut xs none (some (60 : Int)) = xs.take 60 := fun xs => rN xs 60
  simp only [aY, lSl, aJ, lOp, aA, lC, aa, aq, ao, gZ, gS, slE, e60]
  refine take_n lam B5 rfl (by omega) (by omega) fun d3 h6 hd3 k6 B6 => fU ?_
  rw [show (1 : Int) + (d3 : Int) = ((1 + d3 : Nat) : Int) by omega]
  simp only [slE, cut_from, e60]
  refine ⟨by rw [sz]; simp, ?_⟩
  rw [← List.map_drop, ← List.map_take, ← List.map_take]
  have k06 := k05.trans k6
  obtain ⟨L, hL⟩ : ∃ L, L = ring.take 60 := ⟨_, rfl⟩
  obtain ⟨R, hR⟩ : ∃ R, R = (ring.drop (1 + d3)).take 60 := ⟨_, rfl⟩
  rw [← hL, ← hR]
  have lL : L.length = 60 := by rw [hL, List.length_take]; omega
  have lR : R.length = 60 := by rw [hR, List.length_take, List.length_drop]; omega
  have mL : ∀ m ∈ L, m ∈ ns := fun m hm => mring m (by rw [hL] at hm; exact List.mem_of_mem_take hm)
  have mR : ∀ m ∈ R, m ∈ ns := fun m hm => mring m (by rw [hR] at hm; exact List.mem_of_mem_drop (List.mem_of_mem_take hm))
  have lk : LsOk (L ++ R) := ls_ok mL mR n4 nr (by omega)
  have S : SmOk (bwOf L R p lam) L R := bwOf_ok pk lam1 lam2
  obtain ⟨wv, hwv⟩ := waits_fn S.ok
  simp only [cH, Pat.bind, Pat.binds]
  simp only [sZ, sS]
  unfold nj
  try dsimp only
  rw [aD, di]
  simp only [aY, bR, lOp, aA, lC, aa, aq, ao, gZ, gS]
  refine ⟨bwOf L R p lam, L, R, rfl, S, by omega, by omega, lk, fun r f h7 k7 l7 e7 hf => ?_⟩
  have k07 := k06.trans k7.all
  have B7 := B6.keep k7
  have er : (eE L.length fun t => some (f t : Int)) = eE 60 fun t => some (wv t : Int) := by
    rw [lL]
    unfold eE
    refine List.map_congr_left fun t ht => ?_
    rw [List.mem_range] at ht
    show optE (some (f t : Int)) = optE (some (wv t : Int))
    rw [WaitOf.one (hf t (by omega)) (hwv t)]
  rw [er] at e7
  have rb : r ≠ b := by have := B6.lt; omega
  refine take_n 14 B7 rfl (by decide) (by decide) fun d4 h8 hd4 k8 B8 => fU ?_
  refine take_n 32 B8 rfl (by decide) (by decide) fun d5 h9 hd5 k9 B9 => fU ⟨by rw [sz]; simp, by rw [sz]; simp, ?_⟩
  have k09 := k07.trans (k8.trans k9)
  have e79 := k9.other (k8.other e7 rb) rb
  obtain ⟨T, hT⟩ : ∃ T : List Nat, T = [13 + d4, 27 + d5, 60] := ⟨_, rfl⟩
  have hT60 : ∀ t ∈ T, t ≤ 60 := by
    intro t ht
    rw [hT] at ht
    simp only [List.mem_cons, List.not_mem_nil, or_false] at ht
    omega
  have lT3 : T.length = 3 := by rw [hT]; rfl
  have eT : [EV.int (13 + (d4 : Int)), .int (27 + (d5 : Int)), .int 60] = T.map fun t : Nat => EV.int t := by
    rw [hT]
    show _ = [EV.int ((13 + d4 : Nat) : Int), .int ((27 + d5 : Nat) : Int), .int ((60 : Nat) : Int)]
    rw [show (13 : Int) + (d4 : Int) = ((13 + d4 : Nat) : Int) by omega, show (27 : Int) + (d5 : Int) = ((27 + d5 : Nat) : Int) by omega]
    rfl
  rw [eT]
  have e10 : (h9 ++ [EO.lst (T.map fun t : Nat => EV.int t)])[h9.length]? = some (.lst (T.map fun t : Nat => EV.int t)) := bf
  have e710 : (h9 ++ [EO.lst (T.map fun t : Nat => EV.int t)])[r]? = _ := dF e79 _
  have k010 : aH (is1 b) h (h9 ++ [EO.lst (T.map fun t : Nat => EV.int t)]) := k09.trans (aH.app _)
  have B10 := B9.keep (aH.app [EO.lst (T.map fun t : Nat => EV.int t)])
  generalize h9.length = tk at e10 ⊢
  generalize h9 ++ [EO.lst (T.map fun t : Nat => EV.int t)] = h10 at e10 e710 k010 B10 ⊢
  simp only [cH, Pat.bind, Pat.binds]
  simp only [sZ, sS]
  unfold nZ
  try dsimp only
  rw [aD, aU]
  simp only [lLc, lIt, ao, gZ, gS, srcE, e10]
  refine jO (fun t : Nat => EV.int t) (fun t => some (.int (wv t))) T (by omega) (fun h' k => k.at e10) (fun t ht h' ky kn k hy hn => cW ?_) fun h11 k11 e11 => ?_
  · have ht60 := hT60 t ht
    simp only [sZ, sS, aZ, cY, if_true, aA, aa]
    refine sl_tx (n := t) (by rfl) (fun P p => by simp only [ao, gZ, gS]; exact p) (sl_tx (n := t) (by rfl) (fun P p => by simp only [ao, gZ, gS]; exact p) ?_)
    simp only [aa, aq, ao, gZ, gS]
    have lt : (L.take t).length = t := by rw [List.length_take]; omega
    refine ⟨bwOf L R p lam, L.take t, R.take t, rfl, S.take t, by omega, by rw [List.length_take, List.length_take, lL, lR], fun k h2 k2 hk => ?_⟩
    rw [lt] at hk
    rw [WaitOf.one hk (hwv t)]
    exact hy _ rfl _ k2
  have fm : (T.filterMap fun t => some (EV.int (wv t))) = (T.map fun t => (wv t : Int)).map EV.int := by
    rw [List.filterMap_eq_map', List.map_map]; rfl
  rw [fm] at e11
  have e711 := k11.at e710
  have e1011 := k11.at e10
  simp only [sZ, sS]
  unfold mH
  try dsimp only
  rw [aW]
  simp only [bV, lOp, lCB, aA, lLc, lIt, lC, aa, aq, ao, gZ, gS]
  refine len_l e711 (eq_i ?_)
  rw [rowE_len, decide_eq_true (by decide)]
  simp only [Bool.false_xor, if_true, srcE, e1011]
  refine jO (fun t : Nat => EV.int t) (fun t => some (.int (wv t))) T (by omega) (fun h' k => k.at e1011) (fun t ht h' ky kn k hy hn => cW ?_) fun h12 k12 e12 => ?_
  · simp only [sZ, sS, aZ, cY, if_true, lOp, ao, gZ, gS]
    exact ia_l (k.at e711) ((lO _ _).trans (rowE_at (hT60 t ht))) (hy _ rfl _ .refl)
  rw [fm] at e12
  have ds : ∀ x, h12[x]? = some (.lst ((T.map fun t => (wv t : Int)).map EV.int)) → DS h12 2 _ (.ref x) _ := fun x e => DS.lst (n := 1) e (ds_map (k := 41) (T.map fun t => (wv t : Int)) fun v hv => by
    obtain ⟨t, ht, rfl⟩ := List.mem_map.mp hv
    have := WaitOf.le (hwv t)
    have := hT60 t ht
    exact DS.int (by omega) (Nat.le_refl _))
  refine alike_ok (ds _ e12) (ds _ (k12.at e11)) (by decide) (by rw [List.length_map, lT3]; decide) ?_
  have k1012 := k11.trans k12
  exact q _ (k010.trans k1012.all) (B10.keep k1012)
abbrev N_law_k89 : List Str := ["_law_script", "_law_bag_here", "_law_turn", "_law_letters", "_law_pair_here", "_law_lag", "_law_left", "_law_right", "_law_cut", "_law_whole"]
def t_law_k89_3 (ad : Ad) : LS :=
    aW (lC (.bl true))
def t_law_k89_2b_7 (ad : Ad) : LS :=
    bB (dB (lT (aA (cD ad) (aa (lSl (ao 6) (aJ none) (aJ (some (lC (.int 6))))) (aa (lSl (ao 7) (aJ none) (aJ (some (lC (.int 6))))) (aa (aY (aa (lOp ixA (ao 4) (lC (.int 1))) (aa (lOp ixA (ao 4) (lC (.int 0))) (aq)))) (aa (lOp dY (lC (.int 3)) (ao 5)) (aq))))))))
      (aW (lC (.bl false)))
      (aV)
def t_law_k89_2b_6 (ad : Ad) : LS :=
    aD (bB (dB (lT (aA (dZ ad) (aa (aA (iW ad) (aa (lSl (ao 6) (aJ none) (aJ (some (ao 8)))) (aa (lSl (ao 7) (aJ none) (aJ (some (ao 8)))) (aa (ao 4) (aa (ao 5) (aq)))))) (aa (lSl (ao 9) (aJ none) (aJ (some (lOp bJ (ao 8) (lC (.int 1)))))) (aq))))))
      (aW (lC (.bl false)))
      (aV)) <| t_law_k89_2b_7 ad
def t_law_k89_2b_5 (ad : Ad) : LS :=
    aD (aU (aA (iW ad) (aa (ao 6) (aa (ao 7) (aa (ao 4) (aa (ao 5) (aq)))))) 9) <| t_law_k89_2b_6 ad
def t_law_k89_2b_4 (ad : Ad) : LS :=
    aD (aU (aA (aP ad) (aa (ao 1) (aa (lOp bJ (lCB eG (aa (ao 6) (aq))) (lC (.int 1))) (aq)))) 8) <| t_law_k89_2b_5 ad
def t_law_k89_2b_3 (ad : Ad) : LS :=
    aD (bh (aA (iW ad) (aa (ao 6) (aa (ao 7) (aa (aY (aa (lOp ixA (ao 4) (lC (.int 1))) (aa (lOp ixA (ao 4) (lC (.int 0))) (aq)))) (aa (lOp dY (lC (.int 3)) (ao 5)) (aq))))))) <| t_law_k89_2b_4 ad
def t_law_k89_2b_2 (ad : Ad) : LS :=
    aD (bB (dB (lT (aA (cD ad) (aa (ao 6) (aa (ao 7) (aa (ao 4) (aa (ao 5) (aq))))))))
      (aW (lC (.bl false)))
      (aV)) <| t_law_k89_2b_3 ad
def t_law_k89_2b_1 (ad : Ad) : LS :=
    aD (di (aA (mK ad) (aa (ao 1) (aa (ao 3) (aa (lC (.int 12)) (aq))))) (.tp [.nm 6, .nm 7])) <| t_law_k89_2b_2 ad
def t_law_k89_2b_0 (ad : Ad) : LS :=
    aD (lPar3 3 4 5 (aa (aA (fj ad) (aa (ao 1) (aq))) (aa (aA (jo ad) (aa (ao 1) (aq))) (aa (lOp bJ (lC (.int 1)) (aA (aP ad) (aa (ao 1) (aa (lC (.int 2)) (aq))))) (aq))))) <| t_law_k89_2b_1 ad
def t_law_k89_2 (ad : Ad) : LS :=
    aD (bW (bx (aa (lC (.int 3)) (aq))) (.nm 2)
      (t_law_k89_2b_0 ad)) <| t_law_k89_3 ad
def t_law_k89_1 (ad : Ad) : LS :=
    aD (bB (cV (lB (lOp (eqE false) (aA (aP ad) (aa (ao 1) (aa (lC (.int 4)) (aq)))) (lC (.int 0)))) (dB (lT (aA (eV ad) (aa (ao 1) (aq))))))
      (aW (lC (.bl false)))
      (aV)) <| t_law_k89_2 ad
def t_law_k89_0 (ad : Ad) : LS :=
    aD (aU (aA (pJ ad) (aa (ao 0) (aq))) 1) <| t_law_k89_1 ad
def t_law_k89 (ad : Ad) : LS :=
    aD (aU (aA (pJ ad) (aa (ao 0) (aq))) 1) <|
    aD (bB (cV (lB (lOp (eqE false) (aA (aP ad) (aa (ao 1) (aa (lC (.int 4)) (aq)))) (lC (.int 0)))) (dB (lT (aA (eV ad) (aa (ao 1) (aq))))))
      (aW (lC (.bl false)))
      (aV)) <|
    aD (bW (bx (aa (lC (.int 3)) (aq))) (.nm 2)
      (aD (lPar3 3 4 5 (aa (aA (fj ad) (aa (ao 1) (aq))) (aa (aA (jo ad) (aa (ao 1) (aq))) (aa (lOp bJ (lC (.int 1)) (aA (aP ad) (aa (ao 1) (aa (lC (.int 2)) (aq))))) (aq))))) <|
    aD (di (aA (mK ad) (aa (ao 1) (aa (ao 3) (aa (lC (.int 12)) (aq))))) (.tp [.nm 6, .nm 7])) <|
    aD (bB (dB (lT (aA (cD ad) (aa (ao 6) (aa (ao 7) (aa (ao 4) (aa (ao 5) (aq))))))))
      (aW (lC (.bl false)))
      (aV)) <|
    aD (bh (aA (iW ad) (aa (ao 6) (aa (ao 7) (aa (aY (aa (lOp ixA (ao 4) (lC (.int 1))) (aa (lOp ixA (ao 4) (lC (.int 0))) (aq)))) (aa (lOp dY (lC (.int 3)) (ao 5)) (aq))))))) <|
    aD (aU (aA (aP ad) (aa (ao 1) (aa (lOp bJ (lCB eG (aa (ao 6) (aq))) (lC (.int 1))) (aq)))) 8) <|
    aD (aU (aA (iW ad) (aa (ao 6) (aa (ao 7) (aa (ao 4) (aa (ao 5) (aq)))))) 9) <|
    aD (bB (dB (lT (aA (dZ ad) (aa (aA (iW ad) (aa (lSl (ao 6) (aJ none) (aJ (some (ao 8)))) (aa (lSl (ao 7) (aJ none) (aJ (some (ao 8)))) (aa (ao 4) (aa (ao 5) (aq)))))) (aa (lSl (ao 9) (aJ none) (aJ (some (lOp bJ (ao 8) (lC (.int 1)))))) (aq))))))
      (aW (lC (.bl false)))
      (aV)) <|
    bB (dB (lT (aA (cD ad) (aa (lSl (ao 6) (aJ none) (aJ (some (lC (.int 6))))) (aa (lSl (ao 7) (aJ none) (aJ (some (lC (.int 6))))) (aa (aY (aa (lOp ixA (ao 4) (lC (.int 1))) (aa (lOp ixA (ao 4) (lC (.int 0))) (aq)))) (aa (lOp dY (lC (.int 3)) (ao 5)) (aq))))))))
      (aW (lC (.bl false)))
      (aV))) <|
    aW (lC (.bl true))
theorem pure_law_k89 (ad : Ad) (evs : List EV) (h : EH) (Q : EK) (q : spTop 63 evs h Q) : t_law_k89 ad (aM Q) (bF N_law_k89 evs) h := by
  have sz : sizeLine = 16777216 := bG
  obtain ⟨ns0, rfl, rfl, hl0, q⟩ := q
  show t_law_k89_0 ad (aM Q) [some (.ref 0), none, none, none, none, none, none, none, none, none] _
  unfold t_law_k89_0
  rw [aD, aU]
  refine ⟨ns0, rfl, rfl, hl0, fun b h1 B1 => ?_⟩
  try simp only [sZ, sS]
  have rest : ∀ h2, cX h2 b → t_law_k89_2 ad (aM Q) [some (.ref 0), some (.ref b), none, none, none, none, none, none, none, none] h2 := by
    intro h2 B2
    unfold t_law_k89_2
    rw [aD, bW]
    simp only [bx, lC, aa, aq]
    refine ⟨⟨by decide, by decide⟩, ?_⟩
    refine loop_nat 3 (fun _ env h' => cX h' b ∧ ∃ x2 x3 x4 x5 x6 x7 x8 x9 : Option EV, env = [some (.ref 0), some (.ref b), x2, x3, x4, x5, x6, x7, x8, x9]) ?_ ?_ _ _ ⟨B2, _, _, _, _, _, _, _, _, rfl⟩
    · rintro env h3 ⟨B3, x2, x3, x4, x5, x6, x7, x8, x9, rfl⟩
      refine ⟨trivial, ?_⟩
      unfold t_law_k89_3
      try dsimp only
      rw [aW]
      exact q _
    · rintro i env h3 kk hi ⟨B3, x2, x3, x4, x5, x6, x7, x8, x9, rfl⟩ hkk
      refine ⟨trivial, cW ?_⟩
      simp only [sZ, sS]
      unfold t_law_k89_2b_0
      rw [aD, lPar3]
      simp only [aA, lOp, lC, aa, aq, ao, gZ, gS]
      refine ⟨b, rfl, B3, fun l ns h4 nd n0 n4 nr k4 l4 e4 B4 => ?_⟩
      have hb3 := B3.lt
      have lb : l ≠ b := by omega
      refine ⟨b, rfl, B4, fun p h5 pk p3 p4 k5 B5 => ?_⟩
      refine take_n 2 B5 rfl (by decide) (by decide) fun d h6 hd k6 B6 => fU ?_
      have e6 := k6.other (k5.other e4 lb) lb
      obtain ⟨lam, elam, lam1, lam2⟩ : ∃ lam : Nat, (1 : Int) + (d : Int) = (lam : Int) ∧ 1 ≤ lam ∧ lam ≤ 2 := ⟨1 + d, by omega, by omega, by omega⟩
      rw [elam]
      simp only [sZ, sS]
      unfold t_law_k89_2b_1
      try dsimp only
      rw [aD, di]
      simp only [aA, lC, aa, aq, ao, gZ, gS]
      refine ⟨b, l, 12, ns, rfl, e6, by intro e; rw [e] at n0; exact absurd n0 (by decide), by omega, lb, by decide, by decide, B6, fun L R h7 lL nm mL mR k7 B7 => ?_⟩
      simp only [cH, Pat.bind, Pat.binds]
      simp only [sZ, sS]
      have lk : LsOk (L ++ R) := ls_ok mL mR n4 nr (by omega)
      have S : SmOk (bwOf L R p lam) L R := bwOf_ok pk lam1 lam2
      have S2 : SmOk (bwOf L R (p.2, p.1) (3 - lam)) L R := bwOf_ok ⟨pk.3, pk.4, pk.1, pk.2⟩ (by omega) (by omega)
      have lkt : ∀ n, LsOk (L.take n ++ R.take n) := fun n => ls_ok (fun m hm => mL m (List.mem_of_mem_take hm)) (fun m hm => mR m (List.mem_of_mem_take hm)) n4 nr (by rw [List.length_take, List.length_take]; omega)
      obtain ⟨wv, hwv⟩ := waits_fn S.ok
      have e3l : (3 : Int) - (lam : Int) = ((3 - lam : Nat) : Int) := by omega
      unfold t_law_k89_2b_2
      try dsimp only
      rw [aD, bB]
      simp only [dB, lT, aA, aa, aq, ao, gZ, gS]
      refine ⟨bwOf L R p lam, L, R, rfl, S, by omega, nm, lk, fun h8 k8 => ?_⟩
      simp only [iZ, Bool.not_true, Bool.false_eq_true, if_false]
      try refine fM ?_
      have B8 := B7.keep k8
      unfold t_law_k89_2b_3
      try dsimp only
      rw [aD, bh]
      simp only [aA, aY, lOp, lC, aa, aq, ao, gZ, gS]
      refine ia_t (x := .int p.2) rfl (ia_t (x := .int p.1) rfl ⟨by rw [sz]; simp, iU ?_⟩)
      rw [e3l]
      refine ⟨bwOf L R (p.2, p.1) (3 - lam), L, R, rfl, S2, by omega, nm, lk, fun r9 f9 h9 k9 _ _ _ => ?_⟩
      have B9 := B8.keep k9
      unfold t_law_k89_2b_4
      try dsimp only
      rw [aD, aU]
      simp only [aA, lCB, lOp, lC, aa, aq, ao, gZ, gS]
      refine jV (fU ?_)
      refine take_n (L.length + 1) B9 (by omega) (by omega) (by omega) fun cut h10 hcut k10 B10 => ?_
      simp only [sZ, sS]
      unfold t_law_k89_2b_5
      try dsimp only
      rw [aD, aU]
      simp only [aA, aa, aq, ao, gZ, gS]
      refine ⟨bwOf L R p lam, L, R, rfl, S, by omega, nm, lk, fun r11 f11 h11 k11 l11 e11 hf11 => ?_⟩
      simp only [sZ, sS]
      have B11 := B10.keep k11
      have rw_eq : ∀ (n : Nat) (f : Nat → Nat), n ≤ L.length → (∀ t, t ≤ n → (bwOf L R p lam).WaitOf t (f t)) → (eE n fun t => some (f t : Int)) = eE n fun t => some (wv t : Int) := fun n f hn hf => by
        unfold eE
        refine List.map_congr_left fun t ht => ?_
        rw [List.mem_range] at ht
        show optE (some (f t : Int)) = optE (some (wv t : Int))
        rw [WaitOf.one (hf t (by omega)) (hwv t)]
      rw [rw_eq _ _ (Nat.le_refl _) hf11] at e11
      unfold t_law_k89_2b_6
      try dsimp only
      rw [aD, bB]
      simp only [dB, lT, aA, lSl, aJ, lOp, lC, aa, aq, ao, gZ, gS, slE, rN]
      rw [← List.map_take, ← List.map_take]
      have lt : (L.take cut).length = cut := by rw [List.length_take]; omega
      refine ⟨bwOf L R p lam, L.take cut, R.take cut, rfl, S.take cut, by omega, by rw [List.length_take, List.length_take, nm], lkt cut, fun r12 f12 h12 k12 l12 e12 hf12 => ?_⟩
      rw [lt] at e12 hf12
      rw [rw_eq _ _ (by omega) hf12] at e12
      have e1112 := k12.at e11
      refine fU ?_
      rw [show (cut : Int) + 1 = ((cut + 1 : Nat) : Int) by omega]
      simp only [e1112, rN]
      have et : (eE L.length fun t => some (wv t : Int)).take (cut + 1) = eE cut fun t => some (wv t : Int) := by
        unfold eE
        rw [← List.map_take, List.take_range, show min (cut + 1) (L.length + 1) = cut + 1 by omega]
      rw [et]
      have e13 : (h12 ++ [EO.lst (eE cut fun t => some (wv t : Int))])[h12.length]? = some (.lst (eE cut fun t => some (wv t : Int))) := bf
      have e1213 : (h12 ++ [EO.lst (eE cut fun t => some (wv t : Int))])[r12]? = _ := dF e12 _
      have B13 := (B11.keep k12).keep (aH.app [EO.lst (eE cut fun t => some (wv t : Int))])
      generalize h12.length = r13 at e13 ⊢
      generalize h12 ++ [EO.lst (eE cut fun t => some (wv t : Int))] = h13 at e13 e1213 B13 ⊢
      have ds : ∀ x, h13[x]? = some (.lst (eE cut fun t => some (wv t : Int))) → DS h13 2 ((cut + 1) * 42) (.ref x) (rowD cut fun t => some (wv t : Int)) := fun x e => row_ds (n := 1) e fun t ht v hv => by
        cases hv
        have := WaitOf.le (hwv t)
        omega
      refine alike_ok (ds _ e1213) (ds _ e13) (by decide) (by omega) ?_
      simp only [iZ, Bool.not_true, Bool.false_eq_true, if_false]
      try refine fM ?_
      unfold t_law_k89_2b_7
      try dsimp only
      rw [bB]
      have e66 : ∀ {α : Type} (xs : List α), Y.cut xs none (some (6 : Int)) = xs.take 6 := fun xs => rN xs 6
      simp only [dB, lT, aA, aY, lSl, aJ, lOp, lC, aa, aq, ao, gZ, gS, slE, e66]
      rw [← List.map_take, ← List.map_take]
      refine ia_t (x := .int p.2) rfl (ia_t (x := .int p.1) rfl ⟨by rw [sz]; simp, iU ?_⟩)
      rw [e3l]
      refine ⟨bwOf L R (p.2, p.1) (3 - lam), L.take 6, R.take 6, rfl, S2.take 6, by rw [List.length_take]; omega, by rw [List.length_take, List.length_take, nm], lkt 6, fun h14 k14 => ?_⟩
      simp only [iZ, Bool.not_true, Bool.false_eq_true, if_false]
      try refine fM ?_
      exact hkk _ _ ⟨B13.keep k14, _, _, _, _, _, _, _, _, rfl⟩
  unfold t_law_k89_1
  try dsimp only
  rw [aD, bB]
  simp only [cV, lB, dB, lT, lOp, aA, lC, aa, aq, ao, gZ, gS]
  refine take_n 4 B1 rfl (by decide) (by decide) fun d h2 hd k2 B2 => eq_i ?_
  by_cases g : (d : Int) = 0
  · rw [decide_eq_true g]
    simp only [Bool.false_xor, if_true]
    refine ⟨b, rfl, B2, fun h3 k3 B3 => ?_⟩
    simp only [iZ, Bool.not_true, Bool.false_eq_true, if_false]
    try refine fM ?_
    exact rest h3 B3
  · rw [decide_eq_false g]
    simp only [Bool.false_xor, Bool.false_eq_true, if_false]
    try refine fM ?_
    exact rest h2 B2
abbrev FnP (K : PySem.W.Frag) (x q : Str) (st : Stmt) (f : Addr) (fd : FuncData) : Prop := FunD K x q (defArgs st) (defBody st) (defScope st) [] [] f fd
structure Fs (w : World) (K : PySem.W.Frag) (mg : Str → Option Value) : Type where
  ad : Ad
  f_moved : Addr
  d_moved : FuncData
  F_moved : FnP K "moved" "moved" s_moved f_moved d_moved
  g_moved : mg "moved" = some (.ref f_moved)
  f_can_be_done : Addr
  d_can_be_done : FuncData
  lM : FnP K "can_be_done" "can_be_done" gq f_can_be_done d_can_be_done
  g_can_be_done : mg "can_be_done" = some (.ref f_can_be_done)
  f_Prices_drop : Addr
  d_Prices_drop : FuncData
  oX : FnP K "drop" "Prices.drop" gD f_Prices_drop d_Prices_drop
  m_Prices_drop : Meth K ad.a_Prices "drop" f_Prices_drop
  f_Prices_put : Addr
  d_Prices_put : FuncData
  qN : FnP K "put" "Prices.put" g8 f_Prices_put d_Prices_put
  m_Prices_put : Meth K ad.a_Prices "put" f_Prices_put
  f_step_price : Addr
  d_step_price : FuncData
  oA : FnP K "step_price" "step_price" il f_step_price d_step_price
  g_step_price : mg "step_price" = some (.ref f_step_price)
  f_is_in_lag : Addr
  d_is_in_lag : FuncData
  pG : FnP K "is_in_lag" "is_in_lag" jd f_is_in_lag d_is_in_lag
  g_is_in_lag : mg "is_in_lag" = some (.ref f_is_in_lag)
  f_all_points : Addr
  d_all_points : FuncData
  nJ : FnP K "all_points" "all_points" fZ f_all_points d_all_points
  g_all_points : mg "all_points" = some (.ref f_all_points)
  f_steps_from : Addr
  d_steps_from : FuncData
  nD : FnP K "steps_from" "steps_from" fB f_steps_from d_steps_from
  g_steps_from : mg "steps_from" = some (.ref f_steps_from)
  f_grid : Addr
  d_grid : FuncData
  F_grid : FnP K "grid" "grid" s_grid f_grid d_grid
  g_grid : mg "grid" = some (.ref f_grid)
  f_is_integer : Addr
  d_is_integer : FuncData
  nM : FnP K "is_integer" "is_integer" ig f_is_integer d_is_integer
  g_is_integer : mg "is_integer" = some (.ref f_is_integer)
  f_is_between : Addr
  d_is_between : FuncData
  jr : FnP K "is_between" "is_between" iw f_is_between d_is_between
  g_is_between : mg "is_between" = some (.ref f_is_between)
  f_is_letter : Addr
  d_is_letter : FuncData
  pN : FnP K "is_letter" "is_letter" jg f_is_letter d_is_letter
  g_is_letter : mg "is_letter" = some (.ref f_is_letter)
  f_are_costs : Addr
  d_are_costs : FuncData
  pO : FnP K "are_costs" "are_costs" ir f_are_costs d_are_costs
  g_are_costs : mg "are_costs" = some (.ref f_are_costs)
  oN : Addr
  d_is_price_table : FuncData
  iY : FnP K "is_price_table" "is_price_table" du oN d_is_price_table
  g_is_price_table : mg "is_price_table" = some (.ref oN)
  mV : Addr
  d_Prices___init__ : FuncData
  jH : FnP K "__init__" "Prices.__init__" cU mV d_Prices___init__
  k_Prices : Mk K ad.a_Prices mV
  i_Prices : IsiOk K ad.a_Prices
  f_rim_points : Addr
  d_rim_points : FuncData
  jt : FnP K "rim_points" "rim_points" fD f_rim_points d_rim_points
  g_rim_points : mg "rim_points" = some (.ref f_rim_points)
  f_served_by : Addr
  d_served_by : FuncData
  pU : FnP K "served_by" "served_by" iI f_served_by d_served_by
  g_served_by : mg "served_by" = some (.ref f_served_by)
  f_waits : Addr
  d_waits : FuncData
  km : FnP K "waits" "waits" o9 f_waits d_waits
  g_waits : mg "waits" = some (.ref f_waits)
  f__law_bag : Addr
  d__law_bag : FuncData
  rA : FnP K "_law_bag" "_law_bag" jk f__law_bag d__law_bag
  g__law_bag : mg "_law_bag" = some (.ref f__law_bag)
  f__law_take : Addr
  d__law_take : FuncData
  aN : FnP K "_law_take" "_law_take" jh f__law_take d__law_take
  cA : mg "_law_take" = some (.ref f__law_take)
  f__law_one : Addr
  d__law_one : FuncData
  cI : FnP K "_law_one" "_law_one" j7 f__law_one d__law_one
  jY : mg "_law_one" = some (.ref f__law_one)
  f__law_mixed : Addr
  d__law_mixed : FuncData
  oF : FnP K "_law_mixed" "_law_mixed" iD f__law_mixed d__law_mixed
  g__law_mixed : mg "_law_mixed" = some (.ref f__law_mixed)
  pY : Addr
  d__law_alphabet : FuncData
  fP : FnP K "_law_alphabet" "_law_alphabet" eO pY d__law_alphabet
  g__law_alphabet : mg "_law_alphabet" = some (.ref pY)
  f__law_text : Addr
  d__law_text : FuncData
  jW : FnP K "_law_text" "_law_text" gW f__law_text d__law_text
  g__law_text : mg "_law_text" = some (.ref f__law_text)
  f__law_full : Addr
  d__law_full : FuncData
  iJ : FnP K "_law_full" "_law_full" iG f__law_full d__law_full
  g__law_full : mg "_law_full" = some (.ref f__law_full)
  f__law_edited : Addr
  d__law_edited : FuncData
  iK : FnP K "_law_edited" "_law_edited" gG f__law_edited d__law_edited
  g__law_edited : mg "_law_edited" = some (.ref f__law_edited)
  f__law_texts : Addr
  d__law_texts : FuncData
  nH : FnP K "_law_texts" "_law_texts" gU f__law_texts d__law_texts
  g__law_texts : mg "_law_texts" = some (.ref f__law_texts)
  f__law_pair : Addr
  d__law_pair : FuncData
  jT : FnP K "_law_pair" "_law_pair" jf f__law_pair d__law_pair
  g__law_pair : mg "_law_pair" = some (.ref f__law_pair)
  f__law_alike : Addr
  d__law_alike : FuncData
  fY : FnP K "_law_alike" "_law_alike" ie f__law_alike d__law_alike
  g__law_alike : mg "_law_alike" = some (.ref f__law_alike)
  f__law_even : Addr
  d__law_even : FuncData
  pM : FnP K "_law_even" "_law_even" je f__law_even d__law_even
  g__law_even : mg "_law_even" = some (.ref f__law_even)
  f__law_into : Addr
  d__law_into : FuncData
  jX : FnP K "_law_into" "_law_into" ji f__law_into d__law_into
  g__law_into : mg "_law_into" = some (.ref f__law_into)
  f__law_band : Addr
  d__law_band : FuncData
  pK : FnP K "_law_band" "_law_band" iz f__law_band d__law_band
  g__law_band : mg "_law_band" = some (.ref f__law_band)
  f__law_spots : Addr
  d__law_spots : FuncData
  mF : FnP K "_law_spots" "_law_spots" fG f__law_spots d__law_spots
  g__law_spots : mg "_law_spots" = some (.ref f__law_spots)
  rG : Addr
  d__law_through : FuncData
  jR : FnP K "_law_through" "_law_through" d8 rG d__law_through
  g__law_through : mg "_law_through" = some (.ref rG)
  f__law_traces : Addr
  d__law_traces : FuncData
  lH : FnP K "_law_traces" "_law_traces" fH f__law_traces d__law_traces
  g__law_traces : mg "_law_traces" = some (.ref f__law_traces)
  f__law_wait : Addr
  d__law_wait : FuncData
  j5 : FnP K "_law_wait" "_law_wait" gj f__law_wait d__law_wait
  g__law_wait : mg "_law_wait" = some (.ref f__law_wait)
  ju : Addr
  mQ : FuncData
  cM : FnP K "_law_are_waits_right" "_law_are_waits_right" bL ju mQ
  ni : mg "_law_are_waits_right" = some (.ref ju)
  j6 : Addr
  pP : FuncData
  fJ : FnP K "_law_is_long_right" "_law_is_long_right" bO j6 pP
  g__law_is_long_right : mg "_law_is_long_right" = some (.ref j6)
  f_law : Addr
  d_law : FuncData
  F_law : FnP K "law" "law" s_law f_law d_law
  g_law : mg "law" = some (.ref f_law)
  g_Prices : mg "Prices" = some (.ref ad.a_Prices)
  sc_Prices : SlX.SCls K ad.a_Prices
  lY : ∃ p, SlX.Slot1 K ad.a_Prices "its_costs" p 0
  n_abs : mg "abs" = none
  n_all : mg "all" = none
  n_any : mg "any" = none
  n_bool : mg "bool" = none
  n_dict : mg "dict" = none
  n_int : mg "int" = none
  n_isinstance : mg "isinstance" = none
  n_len : mg "len" = none
  n_list : mg "list" = none
  n_max : mg "max" = none
  n_min : mg "min" = none
  n_range : mg "range" = none
  n_repr : mg "repr" = none
  n_set : mg "set" = none
  n_sorted : mg "sorted" = none
  n_tuple : mg "tuple" = none
  c_DROP : ∃ t, mg "DROP" = some (.str (S [100]) t)
  c_GREATEST_LETTER : ∃ t, mg "GREATEST_LETTER" = some (.int 1000000000 t)
  c_GREATEST_PRICE : ∃ t, mg "GREATEST_PRICE" = some (.int 9 t)
  a_IN_ORDER : Addr
  g_IN_ORDER : mg "IN_ORDER" = some (.ref a_IN_ORDER)
  T_IN_ORDER : KTup K a_IN_ORDER [.str [107], .str [100], .str [112]]
  c_KEEP : ∃ t, mg "KEEP" = some (.str (S [107]) t)
  a_PLAIN : Addr
  g_PLAIN : mg "PLAIN" = some (.ref a_PLAIN)
  T_PLAIN : KTup K a_PLAIN [.int 1, .int 1]
  c_PUT : ∃ t, mg "PUT" = some (.str (S [112]) t)
theorem sc_moved : FnScope M_moved ["point", "step"] (defScope s_moved) := ⟨rfl, rfl, rfl, by decide +kernel, rfl, by decide +kernel, by decide +kernel⟩
theorem b_moved {K : PySem.W.Frag} {f : Addr} {fd : FuncData} (F : FnP K "moved" "moved" s_moved f fd) : Binds K fd ["point", "step"] [] := F.bindsN fun _ _ _ _ _ _ us hl => match us, hl with | [_, _], _ => rfl
theorem rO : FnScope M_can_be_done ["step", "point", "left", "right"] (defScope gq) := ⟨rfl, rfl, rfl, by decide +kernel, rfl, by decide +kernel, by decide +kernel⟩
theorem b_can_be_done {K : PySem.W.Frag} {f : Addr} {fd : FuncData} (F : FnP K "can_be_done" "can_be_done" gq f fd) : Binds K fd ["step", "point", "left", "right"] [] := F.bindsN fun _ _ _ _ _ _ us hl => match us, hl with | [_, _, _, _], _ => rfl
theorem sc_Prices_drop : FnScope M_Prices_drop ["self", "letter"] (defScope gD) := ⟨rfl, rfl, rfl, by decide +kernel, rfl, by decide +kernel, by decide +kernel⟩
theorem b_Prices_drop {K : PySem.W.Frag} {f : Addr} {fd : FuncData} (F : FnP K "drop" "Prices.drop" gD f fd) : Binds K fd ["self", "letter"] [] := F.bindsN fun _ _ _ _ _ _ us hl => match us, hl with | [_, _], _ => rfl
theorem sc_Prices_put : FnScope M_Prices_put ["self", "letter"] (defScope g8) := ⟨rfl, rfl, rfl, by decide +kernel, rfl, by decide +kernel, by decide +kernel⟩
theorem b_Prices_put {K : PySem.W.Frag} {f : Addr} {fd : FuncData} (F : FnP K "put" "Prices.put" g8 f fd) : Binds K fd ["self", "letter"] [] := F.bindsN fun _ _ _ _ _ _ us hl => match us, hl with | [_, _], _ => rfl
theorem sc_step_price : FnScope M_step_price ["step", "point", "left", "right", "prices"] (defScope il) := ⟨rfl, rfl, rfl, by decide +kernel, rfl, by decide +kernel, by decide +kernel⟩
theorem b_step_price {K : PySem.W.Frag} {f : Addr} {fd : FuncData} (F : FnP K "step_price" "step_price" il f fd) : Binds K fd ["step", "point", "left", "right", "prices"] [] := F.bindsN fun _ _ _ _ _ _ us hl => match us, hl with | [_, _, _, _, _], _ => rfl
theorem sc_is_in_lag : FnScope M_is_in_lag ["point", "promise"] (defScope jd) := ⟨rfl, rfl, rfl, by decide +kernel, rfl, by decide +kernel, by decide +kernel⟩
theorem b_is_in_lag {K : PySem.W.Frag} {f : Addr} {fd : FuncData} (F : FnP K "is_in_lag" "is_in_lag" jd f fd) : Binds K fd ["point", "promise"] [] := F.bindsN fun _ _ _ _ _ _ us hl => match us, hl with | [_, _], _ => rfl
theorem oR : FnScope M_all_points ["left", "right"] (defScope fZ) := ⟨rfl, rfl, rfl, by decide +kernel, rfl, by decide +kernel, by decide +kernel⟩
theorem b_all_points {K : PySem.W.Frag} {f : Addr} {fd : FuncData} (F : FnP K "all_points" "all_points" fZ f fd) : Binds K fd ["left", "right"] [] := F.bindsN fun _ _ _ _ _ _ us hl => match us, hl with | [_, _], _ => rfl
theorem jF : FnScope qX ["left", "right", "prices", "promise", "point"] (defScope fB) := ⟨rfl, rfl, rfl, by decide +kernel, rfl, by decide +kernel, by decide +kernel⟩
theorem b_steps_from {K : PySem.W.Frag} {f : Addr} {fd : FuncData} (F : FnP K "steps_from" "steps_from" fB f fd) : Binds K fd ["left", "right", "prices", "promise", "point"] [] := F.bindsN fun _ _ _ _ _ _ us hl => match us, hl with | [_, _, _, _, _], _ => rfl
theorem qM : FnScope M_grid ["left", "right", "prices", "promise"] (defScope s_grid) := ⟨rfl, rfl, rfl, by decide +kernel, rfl, by decide +kernel, by decide +kernel⟩
theorem b_grid {K : PySem.W.Frag} {f : Addr} {fd : FuncData} (F : FnP K "grid" "grid" s_grid f fd) : Binds K fd ["left", "right", "prices", "promise"] [] := F.bindsN fun _ _ _ _ _ _ us hl => match us, hl with | [_, _, _, _], _ => rfl
theorem sc_is_integer : FnScope M_is_integer ["thing"] (defScope ig) := ⟨rfl, rfl, rfl, by decide +kernel, rfl, by decide +kernel, by decide +kernel⟩
theorem b_is_integer {K : PySem.W.Frag} {f : Addr} {fd : FuncData} (F : FnP K "is_integer" "is_integer" ig f fd) : Binds K fd ["thing"] [] := F.bindsN fun _ _ _ _ _ _ us hl => match us, hl with | [_], _ => rfl
theorem sc_is_between : FnScope M_is_between ["thing", "low", "high"] (defScope iw) := ⟨rfl, rfl, rfl, by decide +kernel, rfl, by decide +kernel, by decide +kernel⟩
theorem b_is_between {K : PySem.W.Frag} {f : Addr} {fd : FuncData} (F : FnP K "is_between" "is_between" iw f fd) : Binds K fd ["thing", "low", "high"] [] := F.bindsN fun _ _ _ _ _ _ us hl => match us, hl with | [_, _, _], _ => rfl
theorem sc_is_letter : FnScope M_is_letter ["thing"] (defScope jg) := ⟨rfl, rfl, rfl, by decide +kernel, rfl, by decide +kernel, by decide +kernel⟩
theorem b_is_letter {K : PySem.W.Frag} {f : Addr} {fd : FuncData} (F : FnP K "is_letter" "is_letter" jg f fd) : Binds K fd ["thing"] [] := F.bindsN fun _ _ _ _ _ _ us hl => match us, hl with | [_], _ => rfl
theorem sc_are_costs : FnScope M_are_costs ["thing"] (defScope ir) := ⟨rfl, rfl, rfl, by decide +kernel, rfl, by decide +kernel, by decide +kernel⟩
theorem b_are_costs {K : PySem.W.Frag} {f : Addr} {fd : FuncData} (F : FnP K "are_costs" "are_costs" ir f fd) : Binds K fd ["thing"] [] := F.bindsN fun _ _ _ _ _ _ us hl => match us, hl with | [_], _ => rfl
theorem jL : FnScope oM ["thing"] (defScope du) := ⟨rfl, rfl, rfl, by decide +kernel, rfl, by decide +kernel, by decide +kernel⟩
theorem b_is_price_table {K : PySem.W.Frag} {f : Addr} {fd : FuncData} (F : FnP K "is_price_table" "is_price_table" du f fd) : Binds K fd ["thing"] [] := F.bindsN fun _ _ _ _ _ _ us hl => match us, hl with | [_], _ => rfl
theorem lV : FnScope nR ["self", "table"] (defScope cU) := ⟨rfl, rfl, rfl, by decide +kernel, rfl, by decide +kernel, by decide +kernel⟩
theorem b_Prices___init__ {K : PySem.W.Frag} {f : Addr} {fd : FuncData} (F : FnP K "__init__" "Prices.__init__" cU f fd) : Binds K fd ["self", "table"] [] := F.bindsN fun _ _ _ _ _ _ us hl => match us, hl with | [_, _], _ => rfl
theorem jC : FnScope qW ["many", "lag"] (defScope fD) := ⟨rfl, rfl, rfl, by decide +kernel, rfl, by decide +kernel, by decide +kernel⟩
theorem b_rim_points {K : PySem.W.Frag} {f : Addr} {fd : FuncData} (F : FnP K "rim_points" "rim_points" fD f fd) : Binds K fd ["many", "lag"] [] := F.bindsN fun _ _ _ _ _ _ us hl => match us, hl with | [_, _], _ => rfl
theorem fW : FnScope M_served_by ["point", "rows", "left", "right", "pair", "lag"] (defScope iI) := ⟨rfl, rfl, rfl, by decide +kernel, rfl, by decide +kernel, by decide +kernel⟩
theorem b_served_by {K : PySem.W.Frag} {f : Addr} {fd : FuncData} (F : FnP K "served_by" "served_by" iI f fd) : Binds K fd ["point", "rows", "left", "right", "pair", "lag"] [] := F.bindsN fun _ _ _ _ _ _ us hl => match us, hl with | [_, _, _, _, _, _], _ => rfl
theorem jB : FnScope M_waits ["left", "right", "pair", "lag"] (defScope o9) := ⟨rfl, rfl, rfl, by decide +kernel, rfl, by decide +kernel, by decide +kernel⟩
theorem b_waits {K : PySem.W.Frag} {f : Addr} {fd : FuncData} (F : FnP K "waits" "waits" o9 f fd) : Binds K fd ["left", "right", "pair", "lag"] [] := F.bindsN fun _ _ _ _ _ _ us hl => match us, hl with | [_, _, _, _], _ => rfl
theorem sc__law_bag : FnScope M__law_bag ["_law_script"] (defScope jk) := ⟨rfl, rfl, rfl, by decide +kernel, rfl, by decide +kernel, by decide +kernel⟩
theorem b__law_bag {K : PySem.W.Frag} {f : Addr} {fd : FuncData} (F : FnP K "_law_bag" "_law_bag" jk f fd) : Binds K fd ["_law_script"] [] := F.bindsN fun _ _ _ _ _ _ us hl => match us, hl with | [_], _ => rfl
theorem kh : FnScope M__law_take ["_law_bag_here", "_law_many"] (defScope jh) := ⟨rfl, rfl, rfl, by decide +kernel, rfl, by decide +kernel, by decide +kernel⟩
theorem bZ {K : PySem.W.Frag} {f : Addr} {fd : FuncData} (F : FnP K "_law_take" "_law_take" jh f fd) : Binds K fd ["_law_bag_here", "_law_many"] [] := F.bindsN fun _ _ _ _ _ _ us hl => match us, hl with | [_, _], _ => rfl
theorem sc__law_one : FnScope M__law_one ["_law_bag_here", "_law_some"] (defScope j7) := ⟨rfl, rfl, rfl, by decide +kernel, rfl, by decide +kernel, by decide +kernel⟩
theorem jU {K : PySem.W.Frag} {f : Addr} {fd : FuncData} (F : FnP K "_law_one" "_law_one" j7 f fd) : Binds K fd ["_law_bag_here", "_law_some"] [] := F.bindsN fun _ _ _ _ _ _ us hl => match us, hl with | [_, _], _ => rfl
theorem sc__law_mixed : FnScope M__law_mixed ["_law_bag_here", "_law_things"] (defScope iD) := ⟨rfl, rfl, rfl, by decide +kernel, rfl, by decide +kernel, by decide +kernel⟩
theorem b__law_mixed {K : PySem.W.Frag} {f : Addr} {fd : FuncData} (F : FnP K "_law_mixed" "_law_mixed" iD f fd) : Binds K fd ["_law_bag_here", "_law_things"] [] := F.bindsN fun _ _ _ _ _ _ us hl => match us, hl with | [_, _], _ => rfl
theorem sc__law_alphabet : FnScope M__law_alphabet ["_law_bag_here"] (defScope eO) := ⟨rfl, rfl, rfl, by decide +kernel, rfl, by decide +kernel, by decide +kernel⟩
theorem b__law_alphabet {K : PySem.W.Frag} {f : Addr} {fd : FuncData} (F : FnP K "_law_alphabet" "_law_alphabet" eO f fd) : Binds K fd ["_law_bag_here"] [] := F.bindsN fun _ _ _ _ _ _ us hl => match us, hl with | [_], _ => rfl
theorem sc__law_text : FnScope M__law_text ["_law_bag_here", "_law_letters", "_law_most"] (defScope gW) := ⟨rfl, rfl, rfl, by decide +kernel, rfl, by decide +kernel, by decide +kernel⟩
theorem b__law_text {K : PySem.W.Frag} {f : Addr} {fd : FuncData} (F : FnP K "_law_text" "_law_text" gW f fd) : Binds K fd ["_law_bag_here", "_law_letters", "_law_most"] [] := F.bindsN fun _ _ _ _ _ _ us hl => match us, hl with | [_, _, _], _ => rfl
theorem sc__law_full : FnScope M__law_full ["_law_bag_here", "_law_letters", "_law_size"] (defScope iG) := ⟨rfl, rfl, rfl, by decide +kernel, rfl, by decide +kernel, by decide +kernel⟩
theorem b__law_full {K : PySem.W.Frag} {f : Addr} {fd : FuncData} (F : FnP K "_law_full" "_law_full" iG f fd) : Binds K fd ["_law_bag_here", "_law_letters", "_law_size"] [] := F.bindsN fun _ _ _ _ _ _ us hl => match us, hl with | [_, _, _], _ => rfl
theorem nW : FnScope M__law_edited ["_law_bag_here", "_law_text_here", "_law_letters", "_law_most"] (defScope gG) := ⟨rfl, rfl, rfl, by decide +kernel, rfl, by decide +kernel, by decide +kernel⟩
theorem b__law_edited {K : PySem.W.Frag} {f : Addr} {fd : FuncData} (F : FnP K "_law_edited" "_law_edited" gG f fd) : Binds K fd ["_law_bag_here", "_law_text_here", "_law_letters", "_law_most"] [] := F.bindsN fun _ _ _ _ _ _ us hl => match us, hl with | [_, _, _, _], _ => rfl
theorem o7 : FnScope M__law_texts ["_law_bag_here", "_law_letters", "_law_most"] (defScope gU) := ⟨rfl, rfl, rfl, by decide +kernel, rfl, by decide +kernel, by decide +kernel⟩
theorem b__law_texts {K : PySem.W.Frag} {f : Addr} {fd : FuncData} (F : FnP K "_law_texts" "_law_texts" gU f fd) : Binds K fd ["_law_bag_here", "_law_letters", "_law_most"] [] := F.bindsN fun _ _ _ _ _ _ us hl => match us, hl with | [_, _, _], _ => rfl
theorem sc__law_pair : FnScope M__law_pair ["_law_bag_here"] (defScope jf) := ⟨rfl, rfl, rfl, by decide +kernel, rfl, by decide +kernel, by decide +kernel⟩
theorem b__law_pair {K : PySem.W.Frag} {f : Addr} {fd : FuncData} (F : FnP K "_law_pair" "_law_pair" jf f fd) : Binds K fd ["_law_bag_here"] [] := F.bindsN fun _ _ _ _ _ _ us hl => match us, hl with | [_], _ => rfl
theorem sc__law_alike : FnScope M__law_alike ["_law_found", "_law_due"] (defScope ie) := ⟨rfl, rfl, rfl, by decide +kernel, rfl, by decide +kernel, by decide +kernel⟩
theorem b__law_alike {K : PySem.W.Frag} {f : Addr} {fd : FuncData} (F : FnP K "_law_alike" "_law_alike" ie f fd) : Binds K fd ["_law_found", "_law_due"] [] := F.bindsN fun _ _ _ _ _ _ us hl => match us, hl with | [_, _], _ => rfl
theorem qw : FnScope M__law_even ["_law_bag_here", "_law_letters", "_law_most"] (defScope je) := ⟨rfl, rfl, rfl, by decide +kernel, rfl, by decide +kernel, by decide +kernel⟩
theorem b__law_even {K : PySem.W.Frag} {f : Addr} {fd : FuncData} (F : FnP K "_law_even" "_law_even" je f fd) : Binds K fd ["_law_bag_here", "_law_letters", "_law_most"] [] := F.bindsN fun _ _ _ _ _ _ us hl => match us, hl with | [_, _, _], _ => rfl
theorem sc__law_into : FnScope M__law_into ["_law_left", "_law_right", "_law_pair_here", "_law_i", "_law_j"] (defScope ji) := ⟨rfl, rfl, rfl, by decide +kernel, rfl, by decide +kernel, by decide +kernel⟩
theorem b__law_into {K : PySem.W.Frag} {f : Addr} {fd : FuncData} (F : FnP K "_law_into" "_law_into" ji f fd) : Binds K fd ["_law_left", "_law_right", "_law_pair_here", "_law_i", "_law_j"] [] := F.bindsN fun _ _ _ _ _ _ us hl => match us, hl with | [_, _, _, _, _], _ => rfl
theorem jx : FnScope M__law_band ["_law_left", "_law_right", "_law_pair_here", "_law_lag"] (defScope iz) := ⟨rfl, rfl, rfl, by decide +kernel, rfl, by decide +kernel, by decide +kernel⟩
theorem b__law_band {K : PySem.W.Frag} {f : Addr} {fd : FuncData} (F : FnP K "_law_band" "_law_band" iz f fd) : Binds K fd ["_law_left", "_law_right", "_law_pair_here", "_law_lag"] [] := F.bindsN fun _ _ _ _ _ _ us hl => match us, hl with | [_, _, _, _], _ => rfl
theorem jD : FnScope qG ["_law_t", "_law_lag"] (defScope fG) := ⟨rfl, rfl, rfl, by decide +kernel, rfl, by decide +kernel, by decide +kernel⟩
theorem b__law_spots {K : PySem.W.Frag} {f : Addr} {fd : FuncData} (F : FnP K "_law_spots" "_law_spots" fG f fd) : Binds K fd ["_law_t", "_law_lag"] [] := F.bindsN fun _ _ _ _ _ _ us hl => match us, hl with | [_, _], _ => rfl
theorem dh : FnScope rJ ["_law_band_here", "_law_left", "_law_right", "_law_pair_here", "_law_spot", "_law_since"] (defScope d8) := ⟨rfl, rfl, rfl, by decide +kernel, rfl, by decide +kernel, by decide +kernel⟩
theorem b__law_through {K : PySem.W.Frag} {f : Addr} {fd : FuncData} (F : FnP K "_law_through" "_law_through" d8 f fd) : Binds K fd ["_law_band_here", "_law_left", "_law_right", "_law_pair_here", "_law_spot", "_law_since"] [] := F.bindsN fun _ _ _ _ _ _ us hl => match us, hl with | [_, _, _, _, _, _], _ => rfl
theorem nY : FnScope M__law_traces ["_law_left", "_law_right", "_law_pair_here", "_law_lag", "_law_since"] (defScope fH) := ⟨rfl, rfl, rfl, by decide +kernel, rfl, by decide +kernel, by decide +kernel⟩
theorem b__law_traces {K : PySem.W.Frag} {f : Addr} {fd : FuncData} (F : FnP K "_law_traces" "_law_traces" fH f fd) : Binds K fd ["_law_left", "_law_right", "_law_pair_here", "_law_lag", "_law_since"] [] := F.bindsN fun _ _ _ _ _ _ us hl => match us, hl with | [_, _, _, _, _], _ => rfl
theorem iH : FnScope pQ ["_law_left", "_law_right", "_law_pair_here", "_law_lag"] (defScope gj) := ⟨rfl, rfl, rfl, by decide +kernel, rfl, by decide +kernel, by decide +kernel⟩
theorem b__law_wait {K : PySem.W.Frag} {f : Addr} {fd : FuncData} (F : FnP K "_law_wait" "_law_wait" gj f fd) : Binds K fd ["_law_left", "_law_right", "_law_pair_here", "_law_lag"] [] := F.bindsN fun _ _ _ _ _ _ us hl => match us, hl with | [_, _, _, _], _ => rfl
theorem dW : FnScope jn ["_law_left", "_law_right", "_law_pair_here", "_law_lag"] (defScope bL) := ⟨rfl, rfl, rfl, by decide +kernel, rfl, by decide +kernel, by decide +kernel⟩
theorem nO {K : PySem.W.Frag} {f : Addr} {fd : FuncData} (F : FnP K "_law_are_waits_right" "_law_are_waits_right" bL f fd) : Binds K fd ["_law_left", "_law_right", "_law_pair_here", "_law_lag"] [] := F.bindsN fun _ _ _ _ _ _ us hl => match us, hl with | [_, _, _, _], _ => rfl
theorem aX : FnScope iy ["_law_bag_here"] (defScope bO) := ⟨rfl, rfl, rfl, by decide +kernel, rfl, by decide +kernel, by decide +kernel⟩
theorem b__law_is_long_right {K : PySem.W.Frag} {f : Addr} {fd : FuncData} (F : FnP K "_law_is_long_right" "_law_is_long_right" bO f fd) : Binds K fd ["_law_bag_here"] [] := F.bindsN fun _ _ _ _ _ _ us hl => match us, hl with | [_], _ => rfl
theorem sc_law : FnScope M_law ["_law_script"] (defScope s_law) := ⟨rfl, rfl, rfl, by decide +kernel, rfl, by decide +kernel, by decide +kernel⟩
section
variable {P : Program} {w : World} {K : PySem.W.Frag} {mg : Str → Option Value} {base : Heap}
abbrev AD (A : Around) (q : Str) (S : Stmt) (s : Shared) (f : Addr) (cdv : Value) : Around := A.deeper (envOfC q (defScope S) s.heap.objs.size f cdv)
abbrev HY (k : Nat) (A : Around) (q : Str) (S : Stmt) (s : Shared) (f : Addr) (cdv : Value) : Prop := Room k (AD A q S s f cdv) ∧ (AD A q S s f cdv).guards = some []
abbrev LD (P : Program) (w : World) (K : PySem.W.Frag) (mg : Str → Option Value) (base : Heap) (M : List Str) (q : Str) (S : Stmt) (f : Addr) (cdv : Value) (A : Around) (outer : List Env) (s : Shared) (H : Hp) (t : LS) : Prop := LSs (cxOf CX0 P w K mg base M q (defScope S) f cdv A outer s H E0).nox (defBody S) t
variable (T : Fs w K mg) {f : Addr} {cdv : Value} {A : Around} {outer : List Env} {s : Shared} {H : Hp}
theorem der_moved (hy : HY 0 A "moved" s_moved s f cdv) : LD P w K mg base M_moved "moved" s_moved f cdv A outer s H (t_moved T.ad) :=
    aF (bH (dC (aj (aQ bM (bQ (dN (u1 hy.1)) (ak 0) (le_int)) (eY pX rfl T.n_int boot_int (aj (mX (lo_ne hy.1.units) (ak 1) (le_gstr [112] rfl T.c_PUT)) (au)))) (aj (aQ bM (bQ (dN (u1 hy.1)) (ak 0) (le_int)) (eY pX rfl T.n_int boot_int (aj (mX (lo_ne hy.1.units) (ak 1) (le_gstr [100] rfl T.c_DROP)) (au)))) (au)))))
theorem ok_moved : FnG P w K mg base 1 T.f_moved T.d_moved ["point", "step"] (sp_moved T.ad) :=
  cJ T.F_moved sc_moved (len_moved T.ad) fun cdv A outer s H hr hG => ⟨_, der_moved T ⟨hr, hG⟩, pure_moved T.ad⟩
theorem der_can_be_done (hy : HY 0 A "can_be_done" gq s f cdv) : LD P w K mg base M_can_be_done "can_be_done" gq f cdv A outer s H (o8 T.ad) :=
    aC (ls_asg (ak 1) (mU rfl (bT (aO 4 rO.nd) (bT (aO 5 rO.nd) (jK))))) <|
    aC (gY (LWe.lt (lw_or (LWe.lt (lw_and (cP (lo_ne hy.1.units) (ak 0) (le_gstr [112] rfl T.c_PUT)) (lw_and1 (cP lo_ge (ak 4) (aR gM rfl T.n_len boot_len (aj (ak 2) (au))))))) (lw_or1 (LWe.lt (lw_and (cP (lo_ne hy.1.units) (ak 0) (le_gstr [100] rfl T.c_DROP)) (lw_and1 (cP lo_ge (ak 5) (aR gM rfl T.n_len boot_len (aj (ak 3) (au))))))))))
      (aF (bH (le_bl)))
      (dH)) <|
    aF (bH (le_or (mX (lo_ne hy.1.units) (ak 0) (le_gstr [107] rfl T.c_KEEP)) (le_one (mX (oK hy.1.units) (bQ (dN (u1 hy.1)) (ak 2) (ak 4)) (bQ (dN (u1 hy.1)) (ak 3) (ak 5))))))
theorem ok_can_be_done : FnG P w K mg base 1 T.f_can_be_done T.d_can_be_done ["step", "point", "left", "right"] (mO T.ad) :=
  cJ T.lM rO (len_can_be_done T.ad) fun cdv A outer s H hr hG => ⟨_, der_can_be_done T ⟨hr, hG⟩, pure_can_be_done T.ad⟩
theorem der_Prices_drop (hy : HY 0 A "Prices.drop" gD s f cdv) : LD P w K mg base M_Prices_drop "Prices.drop" gD f cdv A outer s H (oV T.ad) :=
    aF (bH (bQ (dN (u1 hy.1)) (le_get2 (u1 hy.1) (le_attr (slot1 T.sc_Prices T.lY) (ak 0)) (ak 1) (le_gtup T.T_PLAIN rfl T.g_PLAIN)) (le_int)))
theorem ok_Prices_drop : FnG P w K mg base 1 T.f_Prices_drop T.d_Prices_drop ["self", "letter"] (mJ T.ad) :=
  cJ T.oX sc_Prices_drop (len_Prices_drop T.ad) fun cdv A outer s H hr hG => ⟨_, der_Prices_drop T ⟨hr, hG⟩, pure_Prices_drop T.ad⟩
theorem der_Prices_put (hy : HY 0 A "Prices.put" g8 s f cdv) : LD P w K mg base M_Prices_put "Prices.put" g8 f cdv A outer s H (qC T.ad) :=
    aF (bH (bQ (dN (u1 hy.1)) (le_get2 (u1 hy.1) (le_attr (slot1 T.sc_Prices T.lY) (ak 0)) (ak 1) (le_gtup T.T_PLAIN rfl T.g_PLAIN)) (le_int)))
theorem ok_Prices_put : FnG P w K mg base 1 T.f_Prices_put T.d_Prices_put ["self", "letter"] (oY T.ad) :=
  cJ T.qN sc_Prices_put (len_Prices_put T.ad) fun cdv A outer s H hr hG => ⟨_, der_Prices_put T ⟨hr, hG⟩, pure_Prices_put T.ad⟩
theorem der_step_price (hy : HY 1 A "step_price" il s f cdv) : LD P w K mg base M_step_price "step_price" il f cdv A outer s H (qJ T.ad) :=
    aC (gY (cP (oK hy.1.units) (ak 0) (le_gstr [107] rfl T.c_KEEP))
      (aF (bH (le_int)))
      (dH)) <|
    aF (bH (le_if (cP (oK hy.1.units) (ak 0) (le_gstr [100] rfl T.c_DROP)) (le_met (met1 T.sc_Prices T.m_Prices_drop (ok_Prices_drop T) (hy.1.mono (by decide)) (b_Prices_drop T.oX)) hy.2 (ak 4) (aj (bQ (dN (u1 hy.1)) (ak 2) (bQ (dN (u1 hy.1)) (ak 1) (le_int))) (au))) (le_met (met1 T.sc_Prices T.m_Prices_put (ok_Prices_put T) (hy.1.mono (by decide)) (b_Prices_put T.qN)) hy.2 (ak 4) (aj (bQ (dN (u1 hy.1)) (ak 3) (bQ (dN (u1 hy.1)) (ak 1) (le_int))) (au)))))
theorem ok_step_price : FnG P w K mg base 2 T.f_step_price T.d_step_price ["step", "point", "left", "right", "prices"] (o5 T.ad) :=
  cJ T.oA sc_step_price (len_step_price T.ad) fun cdv A outer s H hr hG => ⟨_, der_step_price T ⟨hr, hG⟩, pure_step_price T.ad⟩
theorem der_is_in_lag (hy : HY 0 A "is_in_lag" jd s f cdv) : LD P w K mg base M_is_in_lag "is_in_lag" jd f cdv A outer s H (t_is_in_lag T.ad) :=
    aF (bH (le_or (mX (lo_ne hy.1.units) (bQ (dN (u1 hy.1)) (ak 1) (le_int)) (le_str [108, 97, 103])) (le_one (mX lo_le (aR lc_abs rfl T.n_abs boot_abs (aj (aQ eQ (bQ (dN (u1 hy.1)) (ak 0) (le_int)) (bQ (dN (u1 hy.1)) (ak 0) (le_int))) (au))) (bQ (dN (u1 hy.1)) (ak 1) (le_int))))))
theorem ok_is_in_lag : FnG P w K mg base 1 T.f_is_in_lag T.d_is_in_lag ["point", "promise"] (qL T.ad) :=
  cJ T.pG sc_is_in_lag (len_is_in_lag T.ad) fun cdv A outer s H hr hG => ⟨_, der_is_in_lag T ⟨hr, hG⟩, pure_is_in_lag T.ad⟩
theorem der_all_points (hy : HY 0 A "all_points" fZ s f cdv) : LD P w K mg base M_all_points "all_points" fZ f cdv A outer s H (qT T.ad) :=
    aF (bH (le_lc2 [("i", 2), ("j", 3)] [3] rfl oR.nd (gQ rfl T.n_range (aj (aQ bM (aR gM rfl T.n_len boot_len (aj (ak 0) (au))) (le_int)) (au))) (blkOk_by (N := M_all_points) (sc := defScope fZ) (by decide +kernel)) (by decide) (by decide) (by decide) (fun _ _ _ _ _ => aO 2 oR.nd) (fun _ _ _ _ _ => fO) (fun _ _ _ _ _ => gQ rfl T.n_range (aj (aQ bM (aR gM rfl T.n_len boot_len (aj (ak 1) (au))) (le_int)) (au))) (fun _ _ _ _ _ => aO 3 oR.nd) (fun _ _ _ _ _ => fO) (fun _ _ _ _ _ => dC (aj (ak 2) (aj (ak 3) (au))))))
theorem ok_all_points : FnG P w K mg base 1 T.f_all_points T.d_all_points ["left", "right"] (oW T.ad) :=
  cJ T.nJ oR (len_all_points T.ad) fun cdv A outer s H hr hG => ⟨_, der_all_points T ⟨hr, hG⟩, pure_all_points T.ad⟩
theorem der_steps_from (hy : HY 2 A "steps_from" fB s f cdv) : LD P w K mg base qX "steps_from" fB f cdv A outer s H (qH T.ad) :=
    aC (rD 5 [("step", 6)] rfl jF.nd (eU (le_gtup T.T_IN_ORDER rfl T.g_IN_ORDER)) (blkOk_by (N := qX) (sc := defScope fB) (by decide +kernel)) (by decide) (fun _ _ _ _ _ => aO 6 jF.nd) (fun _ _ _ _ _ => lts_one (jA (aK (ok_can_be_done T) (hy.1.mono (by decide)) hy.2 rfl T.g_can_be_done T.lM.kp (b_can_be_done T.lM) (aj (ak 6) (aj (ak 4) (aj (ak 0) (aj (ak 1) (au)))))))) (fun _ _ _ _ _ => dC (aj (ak 6) (aj (aK (ok_moved T) (hy.1.mono (by decide)) hy.2 rfl T.g_moved T.F_moved.kp (b_moved T.F_moved) (aj (ak 4) (aj (ak 6) (au)))) (au))))) <|
    aF (bH (qb [("step", 6), ("later", 7)] rfl jF.nd (eU (ak 5)) (blkOk_by (N := qX) (sc := defScope fB) (by decide +kernel)) (by decide) (fun _ _ _ _ _ => mU rfl (bT (aO 6 jF.nd) (bT (aO 7 jF.nd) (jK)))) (fun _ _ _ _ _ => lts_one (jA (aK (ok_is_in_lag T) (hy.1.mono (by decide)) hy.2 rfl T.g_is_in_lag T.pG.kp (b_is_in_lag T.pG) (aj (ak 7) (aj (ak 3) (au)))))) (fun _ _ _ _ _ => dC (aj (ak 6) (aj (ak 7) (aj (aK (ok_step_price T) (hy.1.mono (by decide)) hy.2 rfl T.g_step_price T.oA.kp (b_step_price T.oA) (aj (ak 6) (aj (ak 4) (aj (ak 0) (aj (ak 1) (aj (ak 2) (au))))))) (au)))))))
theorem ok_steps_from : FnG P w K mg base 3 T.f_steps_from T.d_steps_from ["left", "right", "prices", "promise", "point"] (pB T.ad) :=
  cJ T.nD jF (len_steps_from T.ad) fun cdv A outer s H hr hG => ⟨_, der_steps_from T ⟨hr, hG⟩, pure_steps_from T.ad⟩
theorem der_grid (hy : HY 3 A "grid" s_grid s f cdv) : LD P w K mg base M_grid "grid" s_grid f cdv A outer s H (t_grid T.ad) :=
    aC (rD 4 [("i", 8)] rfl qM.nd (gQ rfl T.n_range (aj (aQ bM (aR gM rfl T.n_len boot_len (aj (ak 0) (au))) (le_int)) (au))) (blkOk_by (N := M_grid) (sc := defScope s_grid) (by decide +kernel)) (by decide) (fun _ _ _ _ _ => aO 8 qM.nd) (fun _ _ _ _ _ => fO) (fun _ _ _ _ _ => aQ lo_mul (iV (aj (le_non) (au))) (aQ bM (aR gM rfl T.n_len boot_len (aj (ak 1) (au))) (le_int)))) <|
    aC (oZ (u1 hy.1) (le_int) (bQ (dN (u1 hy.1)) (ak 4) (le_int)) (le_int)) <|
    aC (kY PassesOwn.never rfl (eU (aK (ok_all_points T) (hy.1.mono (by decide)) hy.2 rfl T.g_all_points T.nJ.kp (b_all_points T.nJ) (aj (ak 0) (aj (ak 1) (au))))) (aO 5 qM.nd)
      (aC (dR 6 qM.nd (bQ (dN (u1 hy.1)) (bQ (dN (u1 hy.1)) (ak 4) (bQ (dN (u1 hy.1)) (ak 5) (le_int))) (bQ (dN (u1 hy.1)) (ak 5) (le_int)))) <|
    aF (gY (cP lo_notN (ak 6) (le_non))
      (aF (kY PassesOwn.never rfl (eU (aK (ok_steps_from T) (hy.1.mono (by decide)) hy.2 rfl T.g_steps_from T.nD.kp (b_steps_from T.nD) (aj (ak 0) (aj (ak 1) (aj (ak 2) (aj (ak 3) (aj (ak 5) (au)))))))) (mU rfl (bT (aO 7 qM.nd) (bT (mU rfl (bT (aO 8 qM.nd) (bT (aO 9 qM.nd) (jK)))) (bT (aO 10 qM.nd) (jK)))))
      (aF (gY (LWe.lt (lw_or (cP lo_isN (bQ (dN (u1 hy.1)) (bQ (dN (u1 hy.1)) (ak 4) (ak 8)) (ak 9)) (le_non)) (lw_or1 (cP lo_lt (aQ bM (ak 6) (ak 10)) (bQ (dN (u1 hy.1)) (bQ (dN (u1 hy.1)) (ak 4) (ak 8)) (ak 9))))))
      (aF (oZ (u1 hy.1) (aQ bM (ak 6) (ak 10)) (bQ (dN (u1 hy.1)) (ak 4) (ak 8)) (ak 9)))
      (dH)))))
      (dH)))) <|
    aF (bH (ak 4))
theorem ok_grid : FnG P w K mg base 4 T.f_grid T.d_grid ["left", "right", "prices", "promise"] (sp_grid T.ad) :=
  cJ T.F_grid qM (len_grid T.ad) fun cdv A outer s H hr hG => ⟨_, der_grid T ⟨hr, hG⟩, pure_grid T.ad⟩
theorem der_is_integer (hy : HY 0 A "is_integer" ig s f cdv) : LD P w K mg base M_is_integer "is_integer" ig f cdv A outer s H (qU T.ad) :=
    aF (bH (le_and (aR lc_isi rfl T.n_isinstance boot_isinstance (aj (ak 0) (aj (le_bty "int" rfl T.n_int boot_int) (au)))) (le_one (le_not (aR lc_isi rfl T.n_isinstance boot_isinstance (aj (ak 0) (aj (le_bty "bool" rfl T.n_bool boot_bool) (au))))))))
theorem ok_is_integer : FnG P w K mg base 1 T.f_is_integer T.d_is_integer ["thing"] (pA T.ad) :=
  cJ T.nM sc_is_integer (len_is_integer T.ad) fun cdv A outer s H hr hG => ⟨_, der_is_integer T ⟨hr, hG⟩, pure_is_integer T.ad⟩
theorem der_is_between (hy : HY 1 A "is_between" iw s f cdv) : LD P w K mg base M_is_between "is_between" iw f cdv A outer s H (qu T.ad) :=
    aF (bH (le_and (aK (ok_is_integer T) (hy.1.mono (by decide)) hy.2 rfl T.g_is_integer T.nM.kp (b_is_integer T.nM) (aj (ak 0) (au))) (le_one (le_chain lo_le lo_le (ak 1) (ak 0) (ak 2)))))
theorem ok_is_between : FnG P w K mg base 2 T.f_is_between T.d_is_between ["thing", "low", "high"] (jE T.ad) :=
  cJ T.jr sc_is_between (len_is_between T.ad) fun cdv A outer s H hr hG => ⟨_, der_is_between T ⟨hr, hG⟩, pure_is_between T.ad⟩
theorem der_is_letter (hy : HY 2 A "is_letter" jg s f cdv) : LD P w K mg base M_is_letter "is_letter" jg f cdv A outer s H (t_is_letter T.ad) :=
    aF (bH (aK (ok_is_between T) (hy.1.mono (by decide)) hy.2 rfl T.g_is_between T.jr.kp (b_is_between T.jr) (aj (ak 0) (aj (le_int) (aj (le_gint 1000000000 rfl T.c_GREATEST_LETTER) (au))))))
theorem ok_is_letter : FnG P w K mg base 3 T.f_is_letter T.d_is_letter ["thing"] (qO T.ad) :=
  cJ T.pN sc_is_letter (len_is_letter T.ad) fun cdv A outer s H hr hG => ⟨_, der_is_letter T ⟨hr, hG⟩, pure_is_letter T.ad⟩
theorem der_are_costs (hy : HY 2 A "are_costs" ir s f cdv) : LD P w K mg base M_are_costs "are_costs" ir f cdv A outer s H (t_are_costs T.ad) :=
    aC (gY (LWe.lt (lw_or (lt_not (jA (aR lc_isi rfl T.n_isinstance boot_isinstance (aj (ak 0) (aj (le_bty "tuple" rfl T.n_tuple boot_tuple) (au)))))) (lw_or1 (cP (lo_ne hy.1.units) (aR gM rfl T.n_len boot_len (aj (ak 0) (au))) (le_int)))))
      (aF (bH (le_bl)))
      (dH)) <|
    aF (bH (aR (lc_all rfl) rfl T.n_all boot_all (aj (qb [("one", 1)] rfl sc_are_costs.nd (eU (ak 0)) (blkOk_by (N := M_are_costs) (sc := defScope ir) (by decide +kernel)) (by decide) (fun _ _ _ _ _ => aO 1 sc_are_costs.nd) (fun _ _ _ _ _ => fO) (fun _ _ _ _ _ => aK (ok_is_between T) (hy.1.mono (by decide)) hy.2 rfl T.g_is_between T.jr.kp (b_is_between T.jr) (aj (ak 1) (aj (le_int) (aj (le_gint 9 rfl T.c_GREATEST_PRICE) (au)))))) (au))))
theorem ok_are_costs : FnG P w K mg base 3 T.f_are_costs T.d_are_costs ["thing"] (qR T.ad) :=
  cJ T.pO sc_are_costs (len_are_costs T.ad) fun cdv A outer s H hr hG => ⟨_, der_are_costs T ⟨hr, hG⟩, pure_are_costs T.ad⟩
theorem der_is_price_table (hy : HY 3 A "is_price_table" du s f cdv) : LD P w K mg base oM "is_price_table" du f cdv A outer s H (kJ T.ad) :=
    aC (gY (lt_not (jA (aR lc_isi rfl T.n_isinstance boot_isinstance (aj (ak 0) (aj (le_bty "dict" rfl T.n_dict boot_dict) (au))))))
      (aF (bH (le_bl)))
      (dH)) <|
    aF (bH (aR (lc_all rfl) rfl T.n_all boot_all (aj (le_lock (qb [("letter", 1), ("costs", 2)] rfl jL.nd (lit_items (ak 0)) (blkOk_by (N := oM) (sc := defScope du) (by decide +kernel)) (by decide) (fun _ _ _ _ _ => mU rfl (bT (aO 1 jL.nd) (bT (aO 2 jL.nd) (jK)))) (fun _ _ _ _ _ => fO) (fun _ _ _ _ _ => le_and (aK (ok_is_letter T) (hy.1.mono (by decide)) hy.2 rfl T.g_is_letter T.pN.kp (b_is_letter T.pN) (aj (ak 1) (au))) (le_one (aK (ok_are_costs T) (hy.1.mono (by decide)) hy.2 rfl T.g_are_costs T.pO.kp (b_are_costs T.pO) (aj (ak 2) (au))))))) (au))))
theorem ok_is_price_table : FnG P w K mg base 4 T.oN T.d_is_price_table ["thing"] (jP T.ad) :=
  cJ T.iY jL (len_is_price_table T.ad) fun cdv A outer s H hr hG => ⟨_, der_is_price_table T ⟨hr, hG⟩, pure_is_price_table T.ad⟩
theorem der_Prices___init__ (hy : HY 4 A "Prices.__init__" cU s f cdv) : LD P w K mg base nR "Prices.__init__" cU f cdv A outer s H (jQ T.ad) :=
    aC (gY (lt_not (jA (aK (ok_is_price_table T) (hy.1.mono (by decide)) hy.2 rfl T.g_is_price_table T.iY.kp (b_is_price_table T.iY) (aj (ak 1) (au)))))
      (aF (ls_never))
      (dH)) <|
    aF (ls_attr (slot1 T.sc_Prices T.lY) (ak 0) (le_dc [("letter", 2)] rfl lV.nd (eU (aR (lc_sorted rfl) rfl T.n_sorted boot_sorted (aj (ak 1) (au)))) (blkOk_by (N := nR) (sc := defScope cU) (by decide +kernel)) (by decide) (fun _ _ _ _ _ => aO 2 lV.nd) (fun _ _ _ _ _ => lts_one (cP (lo_ne hy.1.units) (bQ (dN (u1 hy.1)) (ak 1) (ak 2)) (le_gtup T.T_PLAIN rfl T.g_PLAIN))) (fun _ _ _ _ _ => ak 2) (fun _ _ _ _ _ => bQ (dN (u1 hy.1)) (ak 1) (ak 2))))
theorem ok_Prices___init__ : FnG P w K mg base 5 T.mV T.d_Prices___init__ ["self", "table"] (eX T.ad) :=
  cJ T.jH lV (len_Prices___init__ T.ad) fun cdv A outer s H hr hG => ⟨_, der_Prices___init__ T ⟨hr, hG⟩, pure_Prices___init__ T.ad⟩
theorem der_rim_points (hy : HY 0 A "rim_points" fD s f cdv) : LD P w K mg base qW "rim_points" fD f cdv A outer s H (qI T.ad) :=
    aC (dR 2 jC.nd (aR (lc_max rfl) rfl T.n_max boot_max (aj (le_int) (aj (aQ eQ (ak 0) (ak 1)) (au))))) <|
    aF (bH (aQ bM (qb [("i", 3)] rfl jC.nd (lX rfl T.n_range (aj (ak 2) (aj (aQ bM (ak 0) (le_int)) (au)))) (blkOk_by (N := qW) (sc := defScope fD) (by decide +kernel)) (by decide) (fun _ _ _ _ _ => aO 3 jC.nd) (fun _ _ _ _ _ => fO) (fun _ _ _ _ _ => dC (aj (ak 3) (aj (ak 0) (au))))) (qb [("j", 4)] rfl jC.nd (lit_range3D rfl T.n_range (aj (aQ eQ (ak 0) (le_int)) (aj (aQ eQ (ak 2) (le_int)) (aj (le_neg (le_int)) (au))))) (blkOk_by (N := qW) (sc := defScope fD) (by decide +kernel)) (by decide) (fun _ _ _ _ _ => aO 4 jC.nd) (fun _ _ _ _ _ => fO) (fun _ _ _ _ _ => dC (aj (ak 0) (aj (ak 4) (au)))))))
theorem ok_rim_points : FnG P w K mg base 1 T.f_rim_points T.d_rim_points ["many", "lag"] (iQ T.ad) :=
  cJ T.jt jC (len_rim_points T.ad) fun cdv A outer s H hr hG => ⟨_, der_rim_points T ⟨hr, hG⟩, pure_rim_points T.ad⟩
theorem der_served_by (hy : HY 0 A "served_by" iI s f cdv) : LD P w K mg base M_served_by "served_by" iI f cdv A outer s H (t_served_by T.ad) :=
    aC (dR 6 fW.nd (le_dispT (u1 hy.1) (ak 0) (le_bl))) <|
    aC (kY PassesOwn.never rfl (lX rfl T.n_range (aj (bQ (dN (u1 hy.1)) (ak 0) (le_int)) (aj (aQ bM (aR gM rfl T.n_len boot_len (aj (ak 2) (au))) (le_int)) (au)))) (aO 7 fW.nd)
      (aF (kY PassesOwn.never rfl (lX rfl T.n_range (aj (aR (lc_max rfl) rfl T.n_max boot_max (aj (bQ (dN (u1 hy.1)) (ak 0) (le_int)) (aj (aQ eQ (ak 7) (ak 5)) (au)))) (aj (aQ bM (aR (lc_min rfl) rfl T.n_min boot_min (aj (aR gM rfl T.n_len boot_len (aj (ak 3) (au))) (aj (aQ bM (ak 7) (ak 5)) (au)))) (le_int)) (au)))) (aO 8 fW.nd)
      (aC (dR 9 fW.nd (iV (aj (dC (aj (aQ eQ (ak 7) (le_int)) (aj (ak 8) (aj (bQ (dN (u1 hy.1)) (ak 4) (le_int)) (au))))) (aj (dC (aj (ak 7) (aj (aQ eQ (ak 8) (le_int)) (aj (bQ (dN (u1 hy.1)) (ak 4) (le_int)) (au))))) (au))))) <|
    aC (gY (LWe.lt (lw_and (cP lo_gt (ak 7) (le_int)) (lw_and (cP lo_gt (ak 8) (le_int)) (lw_and1 (cP (oK hy.1.units) (bQ (dN (u1 hy.1)) (ak 2) (aQ eQ (ak 7) (le_int))) (bQ (dN (u1 hy.1)) (ak 3) (aQ eQ (ak 8) (le_int))))))))
      (aF (kE (le_bm PySem.F.plainAttrs_list PySem.F.slot_list_append PySem.F.type_list_append mt_append j9 (ak 9) (aj (dC (aj (aQ eQ (ak 7) (le_int)) (aj (aQ eQ (ak 8) (le_int)) (aj (le_int) (au))))) (au)))))
      (dH)) <|
    aF (gY (jA (aR (lc_any rfl) rfl T.n_any boot_any (aj (qb [("k", 10), ("m", 11), ("cost", 12)] rfl fW.nd (eU (ak 9)) (blkOk_by (N := M_served_by) (sc := defScope iI) (by decide +kernel)) (by decide) (fun _ _ _ _ _ => mU rfl (bT (aO 10 fW.nd) (bT (aO 11 fW.nd) (bT (aO 12 fW.nd) (jK))))) (fun _ _ _ _ _ => fO) (fun _ _ _ _ _ => le_and (mX (lo_in (u65 hy.1)) (dC (aj (ak 10) (aj (ak 11) (au)))) (ak 6)) (le_one (mX (oK hy.1.units) (aQ bM (bQ (dN (u1 hy.1)) (bQ (dN (u1 hy.1)) (ak 1) (ak 10)) (ak 11)) (ak 12)) (bQ (dN (u1 hy.1)) (bQ (dN (u1 hy.1)) (ak 1) (ak 7)) (ak 8)))))) (au))))
      (aF (oZ (u1 hy.1) (le_bl) (ak 6) (dC (aj (ak 7) (aj (ak 8) (au))))))
      (dH)))))) <|
    aF (bH (ak 6))
theorem ok_served_by : FnG P w K mg base 1 T.f_served_by T.d_served_by ["point", "rows", "left", "right", "pair", "lag"] (nu T.ad) :=
  cJ T.pU fW (len_served_by T.ad) fun cdv A outer s H hr hG => ⟨_, der_served_by T ⟨hr, hG⟩, pure_served_by T.ad⟩
theorem der_waits (hy : HY 6 A "waits" o9 s f cdv) : LD P w K mg base M_waits "waits" o9 f cdv A outer s H (t_waits T.ad) :=
    aC (dR 4 jB.nd (aR gM rfl T.n_len boot_len (aj (ak 0) (au)))) <|
    aC (dR 5 jB.nd (aK (ok_grid T) (hy.1.mono (by decide)) hy.2 rfl T.g_grid T.F_grid.kp (b_grid T.F_grid) (aj (ak 0) (aj (ak 1) (aj (le_make T.i_Prices T.k_Prices (ok_Prices___init__ T) (hy.1.mono (by decide)) hy.2 rfl T.g_Prices (b_Prices___init__ T.jH) (aj (le_dc [("letter", 11)] rfl jB.nd (eU (iV (la_star (ak 0) (la_star (ak 1) (au))))) (blkOk_by (N := M_waits) (sc := defScope o9) (by decide +kernel)) (by decide) (fun _ _ _ _ _ => aO 11 jB.nd) (fun _ _ _ _ _ => fO) (fun _ _ _ _ _ => ak 11) (fun _ _ _ _ _ => ak 2)) (au))) (aj (dC (aj (le_str [108, 97, 103]) (aj (ak 3) (au)))) (au))))))) <|
    aC (dR 6 jB.nd (le_lrg1 rfl T.n_list rfl T.n_range (aQ bM (ak 4) (le_int)))) <|
    aC (kY PassesOwn.never rfl (lX rfl T.n_range (aj (le_int) (aj (aQ bM (ak 4) (le_int)) (au)))) (aO 7 jB.nd)
      (aF (kY PassesOwn.never rfl (eU (aK (ok_rim_points T) (hy.1.mono (by decide)) hy.2 rfl T.g_rim_points T.jt.kp (b_rim_points T.jt) (aj (ak 7) (aj (ak 3) (au))))) (aO 8 jB.nd)
      (aC (dR 9 jB.nd (aK (ok_served_by T) (hy.1.mono (by decide)) hy.2 rfl T.g_served_by T.pU.kp (b_served_by T.pU) (aj (ak 8) (aj (ak 5) (aj (ak 0) (aj (ak 1) (aj (ak 2) (aj (ak 3) (au))))))))) <|
    aF (kY PassesOwn.never rfl (lX rfl T.n_range (aj (ak 7) (aj (aQ bM (ak 4) (le_int)) (au)))) (aO 10 jB.nd)
      (aF (gY (LWe.lt (lw_and (cP lo_lt (aQ eQ (ak 10) (ak 7)) (bQ (dN (u1 hy.1)) (ak 6) (ak 10))) (lw_and1 (jA (aR (lc_all rfl) rfl T.n_all boot_all (aj (qb [("one", 12)] rfl jB.nd (eU (aK (ok_rim_points T) (hy.1.mono (by decide)) hy.2 rfl T.g_rim_points T.jt.kp (b_rim_points T.jt) (aj (ak 10) (aj (ak 3) (au))))) (blkOk_by (N := M_waits) (sc := defScope o9) (by decide +kernel)) (by decide) (fun _ _ _ _ _ => aO 12 jB.nd) (fun _ _ _ _ _ => fO) (fun _ _ _ _ _ => mX (lo_in (u65 hy.1)) (ak 12) (ak 9))) (au)))))))
      (aF (oZ (u1 hy.1) (aQ eQ (ak 10) (ak 7)) (ak 6) (ak 10)))
      (dH)))))))) <|
    aF (bH (ak 6))
theorem ok_waits : FnG P w K mg base 7 T.f_waits T.d_waits ["left", "right", "pair", "lag"] (iW T.ad) :=
  cJ T.km jB (len_waits T.ad) fun cdv A outer s H hr hG => ⟨_, der_waits T ⟨hr, hG⟩, pure_waits T.ad⟩
theorem der__law_bag (hy : HY 0 A "_law_bag" jk s f cdv) : LD P w K mg base M__law_bag "_law_bag" jk f cdv A outer s H (t__law_bag T.ad) :=
    aF (bH (iV (aj (le_int) (aj (le_int) (aj (le_int) (aj (qb [("_law_cell", 1)] rfl sc__law_bag.nd (eU (dJ (ak 0) (dM) (dI (le_int)))) (blkOk_by (N := M__law_bag) (sc := defScope jk) (by decide +kernel)) (by decide) (fun _ _ _ _ _ => aO 1 sc__law_bag.nd) (fun _ _ _ _ _ => fO) (fun _ _ _ _ _ => aR lc_abs rfl T.n_abs boot_abs (aj (ak 1) (au)))) (au)))))))
theorem ok__law_bag : FnG P w K mg base 1 T.f__law_bag T.d__law_bag ["_law_script"] (pJ T.ad) :=
  cJ T.rA sc__law_bag (len__law_bag T.ad) fun cdv A outer s H hr hG => ⟨_, der__law_bag T ⟨hr, hG⟩, pure__law_bag T.ad⟩
theorem der__law_take (hy : HY 0 A "_law_take" jh s f cdv) : LD P w K mg base M__law_take "_law_take" jh f cdv A outer s H (t__law_take T.ad) :=
    aC (gY (cP (oK hy.1.units) (bQ (dN (u1 hy.1)) (ak 0) (le_int)) (le_int))
      (aC (dR 2 kh.nd (bQ (dN (u1 hy.1)) (aQ bM (dJ (bQ (dN (u1 hy.1)) (ak 0) (le_int)) (dI (bQ (dN (u1 hy.1)) (ak 0) (le_int))) (dM)) (iV (aj (le_int) (au)))) (le_int))) <|
    aC (ls_augS ip_add (ak 0) (le_int) (le_int)) <|
    aC (oZ (u1 hy.1) (aQ lo_mul (ak 2) (eY pX rfl T.n_int boot_int (aj (mX lo_ge (ak 2) (aQ lo_pow (le_int) (le_int))) (au)))) (ak 0) (le_int)) <|
    aC (dR 3 kh.nd (aQ bM (aQ bM (aQ lo_mul (bQ (dN (u1 hy.1)) (ak 0) (le_int)) (le_int)) (aQ lo_mod (eY pX rfl T.n_int boot_int (aj (ak 2) (au))) (le_int))) (aQ lo_mul (le_int) (bQ (dN (u1 hy.1)) (ak 0) (le_int))))) <|
    aF (oZ (u1 hy.1) (aQ lo_mod (eY pX rfl T.n_int boot_int (aj (ak 3) (au))) (le_int)) (ak 0) (le_int)))
      (dH)) <|
    aC (gY (cP lo_gt (bQ (dN (u1 hy.1)) (ak 0) (le_int)) (le_int))
      (aC (dR 4 kh.nd (aQ lo_mod (eY pX rfl T.n_int boot_int (aj (bQ (dN (u1 hy.1)) (ak 0) (le_int)) (au))) (ak 1))) <|
    aC (oZ (u1 hy.1) (aQ lo_fdiv (eY pX rfl T.n_int boot_int (aj (bQ (dN (u1 hy.1)) (ak 0) (le_int)) (au))) (ak 1)) (ak 0) (le_int)) <|
    aF (bH (ak 4)))
      (dH)) <|
    aC (dR 5 kh.nd (aQ lo_mod (eY pX rfl T.n_int boot_int (aj (aQ lo_mul (aQ bM (bQ (dN (u1 hy.1)) (ak 0) (le_int)) (le_int)) (le_int)) (au))) (le_int))) <|
    aC (dR 6 kh.nd (aQ lo_mod (eY pX rfl T.n_int boot_int (aj (aQ lo_mul (aQ lo_mod (eY pX rfl T.n_int boot_int (aj (aQ lo_mul (ak 5) (ak 5)) (au))) (le_int)) (le_int)) (au))) (le_int))) <|
    aF (bH (aQ lo_mod (eY pX rfl T.n_int boot_int (aj (aQ lo_fdiv (ak 6) (le_int)) (au))) (ak 1)))
theorem bU : FnG P w K mg base 1 T.f__law_take T.d__law_take ["_law_bag_here", "_law_many"] (aP T.ad) :=
  cJ T.aN kh (len__law_take T.ad) fun cdv A outer s H hr hG => ⟨_, der__law_take T ⟨hr, hG⟩, pure__law_take T.ad⟩
theorem der__law_one (hy : HY 1 A "_law_one" j7 s f cdv) : LD P w K mg base M__law_one "_law_one" j7 f cdv A outer s H (t__law_one T.ad) :=
    aF (bH (bQ (dN (u1 hy.1)) (ak 1) (aK (bU T) (hy.1.mono (by decide)) hy.2 rfl T.cA T.aN.kp (bZ T.aN) (aj (ak 0) (aj (aR gM rfl T.n_len boot_len (aj (ak 1) (au))) (au))))))
theorem jc : FnG P w K mg base 2 T.f__law_one T.d__law_one ["_law_bag_here", "_law_some"] (dX T.ad) :=
  cJ T.cI sc__law_one (len__law_one T.ad) fun cdv A outer s H hr hG => ⟨_, der__law_one T ⟨hr, hG⟩, pure__law_one T.ad⟩
theorem der__law_mixed (hy : HY 1 A "_law_mixed" iD s f cdv) : LD P w K mg base M__law_mixed "_law_mixed" iD f cdv A outer s H (t__law_mixed T.ad) :=
    aC (dR 2 sc__law_mixed.nd (iV (au))) <|
    aC (kY PassesOwn.never rfl (eU (ak 1)) (aO 3 sc__law_mixed.nd)
      (aF (kE (le_bm PySem.F.plainAttrs_list PySem.F.slot_list_insert PySem.F.type_list_insert mt_insert lm_insert (ak 2) (aj (aK (bU T) (hy.1.mono (by decide)) hy.2 rfl T.cA T.aN.kp (bZ T.aN) (aj (ak 0) (aj (aQ bM (aR gM rfl T.n_len boot_len (aj (ak 2) (au))) (le_int)) (au)))) (aj (ak 3) (au))))))) <|
    aF (bH (ak 2))
theorem ok__law_mixed : FnG P w K mg base 2 T.f__law_mixed T.d__law_mixed ["_law_bag_here", "_law_things"] (pq T.ad) :=
  cJ T.oF sc__law_mixed (len__law_mixed T.ad) fun cdv A outer s H hr hG => ⟨_, der__law_mixed T ⟨hr, hG⟩, pure__law_mixed T.ad⟩
theorem der__law_alphabet (hy : HY 2 A "_law_alphabet" eO s f cdv) : LD P w K mg base M__law_alphabet "_law_alphabet" eO f cdv A outer s H (t__law_alphabet T.ad) :=
    aF (bH (dJ (aK (ok__law_mixed T) (hy.1.mono (by decide)) hy.2 rfl T.g__law_mixed T.oF.kp (b__law_mixed T.oF) (aj (ak 0) (aj (iV (aj (le_int) (aj (le_int) (aj (le_int) (aj (le_int) (aj (le_int) (aj (le_int) (aj (aQ lo_pow (le_int) (le_int)) (au))))))))) (au)))) (dM) (dI (aK (jc T) (hy.1.mono (by decide)) hy.2 rfl T.jY T.cI.kp (jU T.cI) (aj (ak 0) (aj (iV (aj (le_int) (aj (le_int) (aj (le_int) (aj (le_int) (aj (le_int) (au))))))) (au)))))))
theorem ok__law_alphabet : FnG P w K mg base 3 T.pY T.d__law_alphabet ["_law_bag_here"] (fj T.ad) :=
  cJ T.fP sc__law_alphabet (len__law_alphabet T.ad) fun cdv A outer s H hr hG => ⟨_, der__law_alphabet T ⟨hr, hG⟩, pure__law_alphabet T.ad⟩
theorem der__law_text (hy : HY 2 A "_law_text" gW s f cdv) : LD P w K mg base M__law_text "_law_text" gW f cdv A outer s H (t__law_text T.ad) :=
    aF (bH (eY lc_tuple rfl T.n_tuple boot_tuple (aj (qb [("_law_k", 3)] rfl sc__law_text.nd (gQ rfl T.n_range (aj (aK (bU T) (hy.1.mono (by decide)) hy.2 rfl T.cA T.aN.kp (bZ T.aN) (aj (ak 0) (aj (aQ bM (ak 2) (le_int)) (au)))) (au))) (blkOk_by (N := M__law_text) (sc := defScope gW) (by decide +kernel)) (by decide) (fun _ _ _ _ _ => aO 3 sc__law_text.nd) (fun _ _ _ _ _ => fO) (fun _ _ _ _ _ => aK (jc T) (hy.1.mono (by decide)) hy.2 rfl T.jY T.cI.kp (jU T.cI) (aj (ak 0) (aj (ak 1) (au))))) (au))))
theorem ok__law_text : FnG P w K mg base 3 T.f__law_text T.d__law_text ["_law_bag_here", "_law_letters", "_law_most"] (oE T.ad) :=
  cJ T.jW sc__law_text (len__law_text T.ad) fun cdv A outer s H hr hG => ⟨_, der__law_text T ⟨hr, hG⟩, pure__law_text T.ad⟩
theorem der__law_full (hy : HY 2 A "_law_full" iG s f cdv) : LD P w K mg base M__law_full "_law_full" iG f cdv A outer s H (t__law_full T.ad) :=
    aF (bH (eY lc_tuple rfl T.n_tuple boot_tuple (aj (qb [("_law_k", 3)] rfl sc__law_full.nd (gQ rfl T.n_range (aj (ak 2) (au))) (blkOk_by (N := M__law_full) (sc := defScope iG) (by decide +kernel)) (by decide) (fun _ _ _ _ _ => aO 3 sc__law_full.nd) (fun _ _ _ _ _ => fO) (fun _ _ _ _ _ => aK (jc T) (hy.1.mono (by decide)) hy.2 rfl T.jY T.cI.kp (jU T.cI) (aj (ak 0) (aj (ak 1) (au))))) (au))))
theorem ok__law_full : FnG P w K mg base 3 T.f__law_full T.d__law_full ["_law_bag_here", "_law_letters", "_law_size"] (jm T.ad) :=
  cJ T.iJ sc__law_full (len__law_full T.ad) fun cdv A outer s H hr hG => ⟨_, der__law_full T ⟨hr, hG⟩, pure__law_full T.ad⟩
theorem der__law_edited (hy : HY 2 A "_law_edited" gG s f cdv) : LD P w K mg base M__law_edited "_law_edited" gG f cdv A outer s H (pC T.ad) :=
    aC (dR 4 nW.nd (iV (au))) <|
    aC (kY PassesOwn.never rfl (eU (ak 1)) (aO 5 nW.nd)
      (aC (dR 6 nW.nd (aK (bU T) (hy.1.mono (by decide)) hy.2 rfl T.cA T.aN.kp (bZ T.aN) (aj (ak 0) (aj (le_int) (au))))) <|
    aF (gY (cP (oK hy.1.units) (ak 6) (le_int))
      (aF (kE (le_bm PySem.F.plainAttrs_list PySem.F.slot_list_extend PySem.F.type_list_extend mt_extend lm_extend (ak 4) (aj (iV (aj (aK (jc T) (hy.1.mono (by decide)) hy.2 rfl T.jY T.cI.kp (jU T.cI) (aj (ak 0) (aj (ak 2) (au)))) (aj (ak 5) (au)))) (au)))))
      (aF (gY (cP (oK hy.1.units) (ak 6) (le_int))
      (aF (kE (le_bm PySem.F.plainAttrs_list PySem.F.slot_list_extend PySem.F.type_list_extend mt_extend lm_extend (ak 4) (aj (iV (aj (ak 5) (aj (ak 5) (au)))) (au)))))
      (aF (gY (cP (oK hy.1.units) (ak 6) (le_int))
      (aF (kE (le_bm PySem.F.plainAttrs_list PySem.F.slot_list_append PySem.F.type_list_append mt_append j9 (ak 4) (aj (aK (jc T) (hy.1.mono (by decide)) hy.2 rfl T.jY T.cI.kp (jU T.cI) (aj (ak 0) (aj (ak 2) (au)))) (au)))))
      (aF (gY (cP lo_gt (ak 6) (le_int))
      (aF (kE (le_bm PySem.F.plainAttrs_list PySem.F.slot_list_append PySem.F.type_list_append mt_append j9 (ak 4) (aj (ak 5) (au)))))
      (dH)))))))))) <|
    aC (gY (cP (oK hy.1.units) (aK (bU T) (hy.1.mono (by decide)) hy.2 rfl T.cA T.aN.kp (bZ T.aN) (aj (ak 0) (aj (le_int) (au)))) (le_int))
      (aF (kE (le_bm PySem.F.plainAttrs_list PySem.F.slot_list_append PySem.F.type_list_append mt_append j9 (ak 4) (aj (aK (jc T) (hy.1.mono (by decide)) hy.2 rfl T.jY T.cI.kp (jU T.cI) (aj (ak 0) (aj (ak 2) (au)))) (au)))))
      (dH)) <|
    aF (bH (eY lc_tuple rfl T.n_tuple boot_tuple (aj (dJ (ak 4) (dM) (dI (ak 3))) (au))))
theorem ok__law_edited : FnG P w K mg base 3 T.f__law_edited T.d__law_edited ["_law_bag_here", "_law_text_here", "_law_letters", "_law_most"] (j8 T.ad) :=
  cJ T.iK nW (len__law_edited T.ad) fun cdv A outer s H hr hG => ⟨_, der__law_edited T ⟨hr, hG⟩, pure__law_edited T.ad⟩
theorem der__law_texts (hy : HY 3 A "_law_texts" gU s f cdv) : LD P w K mg base M__law_texts "_law_texts" gU f cdv A outer s H (qD T.ad) :=
    aC (dR 3 o7.nd (aK (bU T) (hy.1.mono (by decide)) hy.2 rfl T.cA T.aN.kp (bZ T.aN) (aj (ak 0) (aj (le_int) (au))))) <|
    aC (gY (cP (oK hy.1.units) (ak 3) (le_int))
      (aF (bH (dC (aj (aK (ok__law_text T) (hy.1.mono (by decide)) hy.2 rfl T.g__law_text T.jW.kp (b__law_text T.jW) (aj (ak 0) (aj (ak 1) (aj (ak 2) (au))))) (aj (aK (ok__law_text T) (hy.1.mono (by decide)) hy.2 rfl T.g__law_text T.jW.kp (b__law_text T.jW) (aj (ak 0) (aj (ak 1) (aj (ak 2) (au))))) (au))))))
      (dH)) <|
    aC (gY (cP (oK hy.1.units) (ak 3) (le_int))
      (aC (dR 4 o7.nd (aQ lo_mul (aK (ok__law_full T) (hy.1.mono (by decide)) hy.2 rfl T.g__law_full T.iJ.kp (b__law_full T.iJ) (aj (ak 0) (aj (ak 1) (aj (aQ bM (le_int) (aK (bU T) (hy.1.mono (by decide)) hy.2 rfl T.cA T.aN.kp (bZ T.aN) (aj (ak 0) (aj (le_int) (au))))) (au))))) (aQ bM (ak 2) (le_int)))) <|
    aF (bH (dC (aj (dJ (ak 4) (dM) (dI (aK (bU T) (hy.1.mono (by decide)) hy.2 rfl T.cA T.aN.kp (bZ T.aN) (aj (ak 0) (aj (aQ bM (ak 2) (le_int)) (au)))))) (aj (dJ (dJ (ak 4) (dI (le_int)) (dM)) (dM) (dI (aK (bU T) (hy.1.mono (by decide)) hy.2 rfl T.cA T.aN.kp (bZ T.aN) (aj (ak 0) (aj (aQ bM (ak 2) (le_int)) (au)))))) (au))))))
      (dH)) <|
    aC (dR 5 o7.nd (aK (ok__law_full T) (hy.1.mono (by decide)) hy.2 rfl T.g__law_full T.iJ.kp (b__law_full T.iJ) (aj (ak 0) (aj (ak 1) (aj (aQ bM (le_int) (aK (bU T) (hy.1.mono (by decide)) hy.2 rfl T.cA T.aN.kp (bZ T.aN) (aj (ak 0) (aj (ak 2) (au))))) (au)))))) <|
    aF (bH (dC (aj (aK (ok__law_edited T) (hy.1.mono (by decide)) hy.2 rfl T.g__law_edited T.iK.kp (b__law_edited T.iK) (aj (ak 0) (aj (ak 5) (aj (ak 1) (aj (ak 2) (au)))))) (aj (aK (ok__law_edited T) (hy.1.mono (by decide)) hy.2 rfl T.g__law_edited T.iK.kp (b__law_edited T.iK) (aj (ak 0) (aj (ak 5) (aj (ak 1) (aj (ak 2) (au)))))) (au)))))
theorem ok__law_texts : FnG P w K mg base 4 T.f__law_texts T.d__law_texts ["_law_bag_here", "_law_letters", "_law_most"] (lN T.ad) :=
  cJ T.nH o7 (len__law_texts T.ad) fun cdv A outer s H hr hG => ⟨_, der__law_texts T ⟨hr, hG⟩, pure__law_texts T.ad⟩
theorem der__law_pair (hy : HY 2 A "_law_pair" jf s f cdv) : LD P w K mg base M__law_pair "_law_pair" jf f cdv A outer s H (t__law_pair T.ad) :=
    aF (bH (dC (aj (aQ bM (le_int) (aK (jc T) (hy.1.mono (by decide)) hy.2 rfl T.jY T.cI.kp (jU T.cI) (aj (ak 0) (aj (iV (aj (le_int) (aj (le_int) (aj (le_int) (aj (le_int) (au)))))) (au))))) (aj (aQ bM (le_int) (aK (jc T) (hy.1.mono (by decide)) hy.2 rfl T.jY T.cI.kp (jU T.cI) (aj (ak 0) (aj (iV (aj (le_int) (aj (le_int) (aj (le_int) (aj (le_int) (au)))))) (au))))) (au)))))
theorem ok__law_pair : FnG P w K mg base 3 T.f__law_pair T.d__law_pair ["_law_bag_here"] (jo T.ad) :=
  cJ T.jT sc__law_pair (len__law_pair T.ad) fun cdv A outer s H hr hG => ⟨_, der__law_pair T ⟨hr, hG⟩, pure__law_pair T.ad⟩
theorem der__law_alike (hy : HY 0 A "_law_alike" ie s f cdv) : LD P w K mg base M__law_alike "_law_alike" ie f cdv A outer s H (t__law_alike T.ad) :=
    aF (bH (le_and (mX (oK hy.1.units) (ak 0) (ak 1)) (le_one (mX (oK hy.1.units) (aR (lc_repr hy.2 hy.1.units) rfl T.n_repr boot_repr (aj (ak 0) (au))) (aR (lc_repr hy.2 hy.1.units) rfl T.n_repr boot_repr (aj (ak 1) (au)))))))
theorem ok__law_alike : FnG P w K mg base 1 T.f__law_alike T.d__law_alike ["_law_found", "_law_due"] (dZ T.ad) :=
  cJ T.fY sc__law_alike (len__law_alike T.ad) fun cdv A outer s H hr hG => ⟨_, der__law_alike T ⟨hr, hG⟩, pure__law_alike T.ad⟩
theorem der__law_even (hy : HY 4 A "_law_even" je s f cdv) : LD P w K mg base M__law_even "_law_even" je f cdv A outer s H (t__law_even T.ad) :=
    aC (ls_asg (aK (ok__law_texts T) (hy.1.mono (by decide)) hy.2 rfl T.g__law_texts T.nH.kp (b__law_texts T.nH) (aj (ak 0) (aj (ak 1) (aj (ak 2) (au))))) (mU rfl (bT (aO 3 qw.nd) (bT (aO 4 qw.nd) (jK))))) <|
    aC (dR 5 qw.nd (aR (lc_min rfl) rfl T.n_min boot_min (aj (aR gM rfl T.n_len boot_len (aj (ak 3) (au))) (aj (aR gM rfl T.n_len boot_len (aj (ak 4) (au))) (au))))) <|
    aF (bH (dC (aj (dJ (ak 3) (dM) (dI (ak 5))) (aj (dJ (ak 4) (dM) (dI (ak 5))) (au)))))
theorem ok__law_even : FnG P w K mg base 5 T.f__law_even T.d__law_even ["_law_bag_here", "_law_letters", "_law_most"] (mK T.ad) :=
  cJ T.pM qw (len__law_even T.ad) fun cdv A outer s H hr hG => ⟨_, der__law_even T ⟨hr, hG⟩, pure__law_even T.ad⟩
theorem der__law_into (hy : HY 0 A "_law_into" ji s f cdv) : LD P w K mg base M__law_into "_law_into" ji f cdv A outer s H (t__law_into T.ad) :=
    aC (dR 5 sc__law_into.nd (iV (au))) <|
    aC (gY (LWe.lt (lw_and (cP lo_gt (ak 3) (le_int)) (lw_and (cP lo_gt (ak 4) (le_int)) (lw_and1 (cP (oK hy.1.units) (bQ (dN (u1 hy.1)) (ak 0) (aQ eQ (ak 3) (le_int))) (bQ (dN (u1 hy.1)) (ak 1) (aQ eQ (ak 4) (le_int))))))))
      (aF (kE (le_bm PySem.F.plainAttrs_list PySem.F.slot_list_append PySem.F.type_list_append mt_append j9 (ak 5) (aj (dC (aj (dC (aj (aQ eQ (ak 3) (le_int)) (aj (aQ eQ (ak 4) (le_int)) (au)))) (aj (le_int) (au)))) (au)))))
      (dH)) <|
    aC (gY (cP lo_gt (ak 3) (le_int))
      (aF (kE (le_bm PySem.F.plainAttrs_list PySem.F.slot_list_append PySem.F.type_list_append mt_append j9 (ak 5) (aj (dC (aj (dC (aj (aQ eQ (ak 3) (le_int)) (aj (ak 4) (au)))) (aj (bQ (dN (u1 hy.1)) (ak 2) (le_int)) (au)))) (au)))))
      (dH)) <|
    aC (gY (cP lo_gt (ak 4) (le_int))
      (aF (kE (le_bm PySem.F.plainAttrs_list PySem.F.slot_list_append PySem.F.type_list_append mt_append j9 (ak 5) (aj (dC (aj (dC (aj (ak 3) (aj (aQ eQ (ak 4) (le_int)) (au)))) (aj (bQ (dN (u1 hy.1)) (ak 2) (le_int)) (au)))) (au)))))
      (dH)) <|
    aF (bH (ak 5))
theorem ok__law_into : FnG P w K mg base 1 T.f__law_into T.d__law_into ["_law_left", "_law_right", "_law_pair_here", "_law_i", "_law_j"] (jj T.ad) :=
  cJ T.jX sc__law_into (len__law_into T.ad) fun cdv A outer s H hr hG => ⟨_, der__law_into T ⟨hr, hG⟩, pure__law_into T.ad⟩
theorem der__law_band (hy : HY 1 A "_law_band" iz s f cdv) : LD P w K mg base M__law_band "_law_band" iz f cdv A outer s H (t__law_band T.ad) :=
    aC (dR 4 jx.nd (le_dispT (u1 hy.1) (dC (aj (le_int) (aj (le_int) (au)))) (le_int))) <|
    aC (kY PassesOwn.never rfl (gQ rfl T.n_range (aj (aQ bM (aR gM rfl T.n_len boot_len (aj (ak 0) (au))) (le_int)) (au))) (aO 5 jx.nd)
      (aF (kY PassesOwn.never rfl (lX rfl T.n_range (aj (aR (lc_max rfl) rfl T.n_max boot_max (aj (le_int) (aj (aQ eQ (ak 5) (ak 3)) (au)))) (aj (aQ bM (aR (lc_min rfl) rfl T.n_min boot_min (aj (aR gM rfl T.n_len boot_len (aj (ak 1) (au))) (aj (aQ bM (ak 5) (ak 3)) (au)))) (le_int)) (au)))) (aO 6 jx.nd)
      (aC (rD 7 [("_law_prev", 8), ("_law_price", 9)] rfl jx.nd (eU (aK (ok__law_into T) (hy.1.mono (by decide)) hy.2 rfl T.g__law_into T.jX.kp (b__law_into T.jX) (aj (ak 0) (aj (ak 1) (aj (ak 2) (aj (ak 5) (aj (ak 6) (au)))))))) (blkOk_by (N := M__law_band) (sc := defScope iz) (by decide +kernel)) (by decide) (fun _ _ _ _ _ => mU rfl (bT (aO 8 jx.nd) (bT (aO 9 jx.nd) (jK)))) (fun _ _ _ _ _ => lts_one (cP (lo_in (u65 hy.1)) (ak 8) (ak 4))) (fun _ _ _ _ _ => aQ bM (bQ (dN (u1 hy.1)) (ak 4) (ak 8)) (ak 9))) <|
    aF (gY (cP (lo_ne hy.1.units) (ak 7) (iV (au)))
      (aF (oZ (u1 hy.1) (aR (lc_min rfl) rfl T.n_min boot_min (aj (ak 7) (au))) (ak 4) (dC (aj (ak 5) (aj (ak 6) (au))))))
      (dH)))))) <|
    aF (bH (ak 4))
theorem ok__law_band : FnG P w K mg base 2 T.f__law_band T.d__law_band ["_law_left", "_law_right", "_law_pair_here", "_law_lag"] (qK T.ad) :=
  cJ T.pK jx (len__law_band T.ad) fun cdv A outer s H hr hG => ⟨_, der__law_band T ⟨hr, hG⟩, pure__law_band T.ad⟩
theorem der__law_spots (hy : HY 0 A "_law_spots" fG s f cdv) : LD P w K mg base qG "_law_spots" fG f cdv A outer s H (qQ T.ad) :=
    aC (dR 2 jD.nd (aR (lc_max rfl) rfl T.n_max boot_max (aj (le_int) (aj (aQ eQ (ak 0) (ak 1)) (au))))) <|
    aF (bH (aQ bM (aQ bM (qb [("_law_i", 3)] rfl jD.nd (lX rfl T.n_range (aj (ak 2) (aj (ak 0) (au)))) (blkOk_by (N := qG) (sc := defScope fG) (by decide +kernel)) (by decide) (fun _ _ _ _ _ => aO 3 jD.nd) (fun _ _ _ _ _ => fO) (fun _ _ _ _ _ => dC (aj (ak 3) (aj (ak 0) (au))))) (iV (aj (dC (aj (ak 0) (aj (ak 0) (au)))) (au)))) (qb [("_law_k", 4)] rfl jD.nd (gQ rfl T.n_range (aj (aQ eQ (ak 0) (ak 2)) (au))) (blkOk_by (N := qG) (sc := defScope fG) (by decide +kernel)) (by decide) (fun _ _ _ _ _ => aO 4 jD.nd) (fun _ _ _ _ _ => fO) (fun _ _ _ _ _ => dC (aj (ak 0) (aj (aQ eQ (aQ eQ (ak 0) (le_int)) (ak 4)) (au)))))))
theorem ok__law_spots : FnG P w K mg base 1 T.f__law_spots T.d__law_spots ["_law_t", "_law_lag"] (oU T.ad) :=
  cJ T.mF jD (len__law_spots T.ad) fun cdv A outer s H hr hG => ⟨_, der__law_spots T ⟨hr, hG⟩, pure__law_spots T.ad⟩
theorem der__law_through (hy : HY 1 A "_law_through" d8 s f cdv) : LD P w K mg base rJ "_law_through" d8 f cdv A outer s H (t__law_through T.ad) :=
    aC (ls_asg (dC (aj (le_dnewT) (aj (aQ lo_mul (iV (aj (ak 4) (au))) (eY pX rfl T.n_int boot_int (aj (mX lo_gt (aR (lc_maxT rfl) rfl T.n_max boot_max (aj (ak 4) (au))) (ak 5)) (au)))) (au)))) (mU rfl (bT (aO 6 dh.nd) (bT (aO 7 dh.nd) (jK))))) <|
    aC (kY PassesOwn.never rfl (gQ rfl T.n_range (aj (aQ bM (aQ bM (aR gM rfl T.n_len boot_len (aj (ak 1) (au))) (aR gM rfl T.n_len boot_len (aj (ak 2) (au)))) (le_int)) (au))) (aO 8 dh.nd)
      (aC (dR 9 dh.nd (iV (au))) <|
    aC (kY PassesOwn.never rfl (eU (ak 7)) (aO 10 dh.nd)
      (aC (oZ (u1 hy.1) (le_bl) (ak 6) (ak 10)) <|
    aF (kY PassesOwn.never rfl (eU (aK (ok__law_into T) (hy.1.mono (by decide)) hy.2 rfl T.g__law_into T.jX.kp (b__law_into T.jX) (aj (ak 1) (aj (ak 2) (aj (ak 3) (aj (bQ (dN (u1 hy.1)) (ak 10) (le_int)) (aj (bQ (dN (u1 hy.1)) (ak 10) (le_int)) (au)))))))) (mU rfl (bT (aO 11 dh.nd) (bT (aO 12 dh.nd) (jK))))
      (aF (gY (LWe.lt (lw_and (cP (lo_in (u65 hy.1)) (ak 11) (ak 0)) (lw_and (cP (oK hy.1.units) (aQ bM (bQ (dN (u1 hy.1)) (ak 0) (ak 11)) (ak 12)) (bQ (dN (u1 hy.1)) (ak 0) (ak 10))) (lw_and1 (cP lo_gt (aR (lc_maxT rfl) rfl T.n_max boot_max (aj (ak 11) (au))) (ak 5))))))
      (aF (kE (le_bm PySem.F.plainAttrs_list PySem.F.slot_list_append PySem.F.type_list_append mt_append j9 (ak 9) (aj (ak 11) (au)))))
      (dH)))))) <|
    aF (rD 7 [("_law_prev", 11)] rfl dh.nd (eU (le_sortSetT rfl T.n_sorted rfl T.n_set (ak 9) hy.1.units)) (blkOk_by (N := rJ) (sc := defScope d8) (by decide +kernel)) (by decide) (fun _ _ _ _ _ => aO 11 dh.nd) (fun _ _ _ _ _ => lts_one (cP (lo_nin (u65 hy.1)) (ak 11) (ak 6))) (fun _ _ _ _ _ => ak 11)))) <|
    aF (bH (ak 6))
theorem ok__law_through : FnG P w K mg base 2 T.rG T.d__law_through ["_law_band_here", "_law_left", "_law_right", "_law_pair_here", "_law_spot", "_law_since"] (lQ T.ad) :=
  cJ T.jR dh (len__law_through T.ad) fun cdv A outer s H hr hG => ⟨_, der__law_through T ⟨hr, hG⟩, pure__law_through T.ad⟩
theorem der__law_traces (hy : HY 2 A "_law_traces" fH s f cdv) : LD P w K mg base M__law_traces "_law_traces" fH f cdv A outer s H (ph T.ad) :=
    aC (dR 5 nY.nd (aK (ok__law_band T) (hy.1.mono (by decide)) hy.2 rfl T.g__law_band T.pK.kp (b__law_band T.pK) (aj (ak 0) (aj (ak 1) (aj (ak 2) (aj (ak 3) (au))))))) <|
    aF (bH (qb [("_law_spot", 6)] rfl nY.nd (eU (aK (ok__law_spots T) (hy.1.mono (by decide)) hy.2 rfl T.g__law_spots T.mF.kp (b__law_spots T.mF) (aj (aR gM rfl T.n_len boot_len (aj (ak 0) (au))) (aj (ak 3) (au))))) (blkOk_by (N := M__law_traces) (sc := defScope fH) (by decide +kernel)) (by decide) (fun _ _ _ _ _ => aO 6 nY.nd) (fun _ _ _ _ _ => fO) (fun _ _ _ _ _ => aK (ok__law_through T) (hy.1.mono (by decide)) hy.2 rfl T.g__law_through T.jR.kp (b__law_through T.jR) (aj (ak 5) (aj (ak 0) (aj (ak 1) (aj (ak 2) (aj (ak 6) (aj (ak 4) (au))))))))))
theorem ok__law_traces : FnG P w K mg base 3 T.f__law_traces T.d__law_traces ["_law_left", "_law_right", "_law_pair_here", "_law_lag", "_law_since"] (jZ T.ad) :=
  cJ T.lH nY (len__law_traces T.ad) fun cdv A outer s H hr hG => ⟨_, der__law_traces T ⟨hr, hG⟩, pure__law_traces T.ad⟩
theorem der__law_wait (hy : HY 3 A "_law_wait" gj s f cdv) : LD P w K mg base pQ "_law_wait" gj f cdv A outer s H (t__law_wait T.ad) :=
    aC (dR 4 iH.nd (aK (ok__law_traces T) (hy.1.mono (by decide)) hy.2 rfl T.g__law_traces T.lH.kp (b__law_traces T.lH) (aj (ak 0) (aj (ak 1) (aj (ak 2) (aj (ak 3) (aj (aQ eQ (le_int) (le_int)) (au)))))))) <|
    aC (ls_lockT (rD 5 [("_law_spot", 6)] rfl iH.nd (lit_keysT (bQ (dN (u1 hy.1)) (ak 4) (le_int))) (blkOk_by (N := pQ) (sc := defScope gj) (by decide +kernel)) (by decide) (fun _ _ _ _ _ => aO 6 iH.nd) (fun _ _ _ _ _ => lts_one (cP (lo_eqN hy.1.units) (qb [("_law_trace", 7)] rfl iH.nd (eU (ak 4)) (blkOk_in (N := pQ) rfl (by decide +kernel)) (by decide) (fun _ _ _ _ _ => aO 7 iH.nd) (fun _ _ _ _ _ => lts_one (cP (lo_ninAT (u65 hy.1)) (ak 6) (ak 7))) (fun _ _ _ _ _ => ak 7)) (iV (au)))) (fun _ _ _ _ _ => ak 6))) <|
    aF (bH (aQ eQ (aR gM rfl T.n_len boot_len (aj (ak 0) (au))) (aR (lc_maxT rfl) rfl T.n_max boot_max (aj (qb [("_law_spot", 6)] rfl iH.nd (eU (ak 5)) (blkOk_by (N := pQ) (sc := defScope gj) (by decide +kernel)) (by decide) (fun _ _ _ _ _ => aO 6 iH.nd) (fun _ _ _ _ _ => fO) (fun _ _ _ _ _ => aR (lc_maxT rfl) rfl T.n_max boot_max (aj (ak 6) (au)))) (au)))))
theorem ok__law_wait : FnG P w K mg base 4 T.f__law_wait T.d__law_wait ["_law_left", "_law_right", "_law_pair_here", "_law_lag"] (jw T.ad) :=
  cJ T.j5 iH (len__law_wait T.ad) fun cdv A outer s H hr hG => ⟨_, der__law_wait T ⟨hr, hG⟩, pure__law_wait T.ad⟩
theorem der__law_are_waits_right (hy : HY 7 A "_law_are_waits_right" bL s f cdv) : LD P w K mg base jn "_law_are_waits_right" bL f cdv A outer s H (nA T.ad) :=
    aC (rD 4 [("_law_t", 7)] rfl dW.nd (gQ rfl T.n_range (aj (aQ bM (aR gM rfl T.n_len boot_len (aj (ak 0) (au))) (le_int)) (au))) (blkOk_by (N := jn) (sc := defScope bL) (by decide +kernel)) (by decide) (fun _ _ _ _ _ => aO 7 dW.nd) (fun _ _ _ _ _ => fO) (fun _ _ _ _ _ => aK (ok__law_wait T) (hy.1.mono (by decide)) hy.2 rfl T.g__law_wait T.j5.kp (b__law_wait T.j5) (aj (dJ (ak 0) (dM) (dI (ak 7))) (aj (dJ (ak 1) (dM) (dI (ak 7))) (aj (ak 2) (aj (ak 3) (au))))))) <|
    aC (kY PassesOwn.never rfl (gQ rfl T.n_range (aj (le_int) (au))) (aO 5 dW.nd)
      (aC (dR 6 dW.nd (aK (ok_waits T) (hy.1.mono (by decide)) hy.2 rfl T.g_waits T.km.kp (b_waits T.km) (aj (ak 0) (aj (ak 1) (aj (ak 2) (aj (ak 3) (au))))))) <|
    aC (gY (lt_not (jA (aK (ok__law_alike T) (hy.1.mono (by decide)) hy.2 rfl T.g__law_alike T.fY.kp (b__law_alike T.fY) (aj (ak 6) (aj (ak 4) (au))))))
      (aF (bH (le_bl)))
      (dH)) <|
    aC (kE (le_bm PySem.F.plainAttrs_list PySem.F.slot_list_append PySem.F.type_list_append mt_append j9 (ak 6) (aj (aQ bM (bQ (dN (u1 hy.1)) (ak 6) (le_int)) (le_int)) (au)))) <|
    aF (oZ (u1 hy.1) (le_int) (ak 6) (le_int)))) <|
    aF (bH (le_bl))
theorem mD : FnG P w K mg base 8 T.ju T.mQ ["_law_left", "_law_right", "_law_pair_here", "_law_lag"] (cD T.ad) :=
  cJ T.cM dW (len__law_are_waits_right T.ad) fun cdv A outer s H hr hG => ⟨_, der__law_are_waits_right T ⟨hr, hG⟩, pure__law_are_waits_right T.ad⟩
theorem der__law_is_long_right (hy : HY 7 A "_law_is_long_right" bO s f cdv) : LD P w K mg base iy "_law_is_long_right" bO f cdv A outer s H (pF T.ad) :=
    aC (ls_asg (dC (aj (aK (ok__law_alphabet T) (hy.1.mono (by decide)) hy.2 rfl T.g__law_alphabet T.fP.kp (b__law_alphabet T.fP) (aj (ak 0) (au))) (aj (aK (ok__law_pair T) (hy.1.mono (by decide)) hy.2 rfl T.g__law_pair T.jT.kp (b__law_pair T.jT) (aj (ak 0) (au))) (aj (aQ bM (le_int) (aK (bU T) (hy.1.mono (by decide)) hy.2 rfl T.cA T.aN.kp (bZ T.aN) (aj (ak 0) (aj (le_int) (au))))) (au))))) (mU rfl (bT (aO 1 aX.nd) (bT (aO 2 aX.nd) (bT (aO 3 aX.nd) (jK)))))) <|
    aC (dR 4 aX.nd (aQ lo_mul (aK (ok__law_full T) (hy.1.mono (by decide)) hy.2 rfl T.g__law_full T.iJ.kp (b__law_full T.iJ) (aj (ak 0) (aj (ak 1) (aj (aQ bM (le_int) (aK (bU T) (hy.1.mono (by decide)) hy.2 rfl T.cA T.aN.kp (bZ T.aN) (aj (ak 0) (aj (le_int) (au))))) (au))))) (le_int))) <|
    aC (ls_asg (dC (aj (dJ (ak 4) (dM) (dI (le_int))) (aj (dJ (dJ (ak 4) (dI (aQ bM (le_int) (aK (bU T) (hy.1.mono (by decide)) hy.2 rfl T.cA T.aN.kp (bZ T.aN) (aj (ak 0) (aj (ak 3) (au)))))) (dM)) (dM) (dI (le_int))) (au)))) (mU rfl (bT (aO 5 aX.nd) (bT (aO 6 aX.nd) (jK))))) <|
    aC (ls_asg (dC (aj (aK (ok_waits T) (hy.1.mono (by decide)) hy.2 rfl T.g_waits T.km.kp (b_waits T.km) (aj (ak 5) (aj (ak 6) (aj (ak 2) (aj (ak 3) (au)))))) (aj (iV (aj (aQ bM (le_int) (aK (bU T) (hy.1.mono (by decide)) hy.2 rfl T.cA T.aN.kp (bZ T.aN) (aj (ak 0) (aj (le_int) (au))))) (aj (aQ bM (le_int) (aK (bU T) (hy.1.mono (by decide)) hy.2 rfl T.cA T.aN.kp (bZ T.aN) (aj (ak 0) (aj (le_int) (au))))) (aj (le_int) (au))))) (au)))) (mU rfl (bT (aO 7 aX.nd) (bT (aO 8 aX.nd) (jK))))) <|
    aC (rD 9 [("_law_t", 10)] rfl aX.nd (eU (ak 8)) (blkOk_by (N := iy) (sc := defScope bO) (by decide +kernel)) (by decide) (fun _ _ _ _ _ => aO 10 aX.nd) (fun _ _ _ _ _ => fO) (fun _ _ _ _ _ => aK (ok__law_wait T) (hy.1.mono (by decide)) hy.2 rfl T.g__law_wait T.j5.kp (b__law_wait T.j5) (aj (dJ (ak 5) (dM) (dI (ak 10))) (aj (dJ (ak 6) (dM) (dI (ak 10))) (aj (ak 2) (aj (ak 3) (au))))))) <|
    aF (bH (le_and (mX (oK hy.1.units) (aR gM rfl T.n_len boot_len (aj (ak 7) (au))) (le_int)) (le_one (aK (ok__law_alike T) (hy.1.mono (by decide)) hy.2 rfl T.g__law_alike T.fY.kp (b__law_alike T.fY) (aj (qb [("_law_t", 10)] rfl aX.nd (eU (ak 8)) (blkOk_by (N := iy) (sc := defScope bO) (by decide +kernel)) (by decide) (fun _ _ _ _ _ => aO 10 aX.nd) (fun _ _ _ _ _ => fO) (fun _ _ _ _ _ => bQ (dN (u1 hy.1)) (ak 7) (ak 10))) (aj (ak 9) (au)))))))
theorem ok__law_is_long_right : FnG P w K mg base 8 T.j6 T.pP ["_law_bag_here"] (eV T.ad) :=
  cJ T.fJ aX (len__law_is_long_right T.ad) fun cdv A outer s H hr hG => ⟨_, der__law_is_long_right T ⟨hr, hG⟩, pure__law_is_long_right T.ad⟩
theorem der_law (hy : HY 8 A "law" s_law s f cdv) : LD P w K mg base M_law "law" s_law f cdv A outer s H (t_law_k89 T.ad) :=
    aC (dR 1 sc_law.nd (aK (ok__law_bag T) (hy.1.mono (by decide)) hy.2 rfl T.g__law_bag T.rA.kp (b__law_bag T.rA) (aj (ak 0) (au)))) <|
    aC (gY (LWe.lt (lw_and (cP (oK hy.1.units) (aK (bU T) (hy.1.mono (by decide)) hy.2 rfl T.cA T.aN.kp (bZ T.aN) (aj (ak 1) (aj (le_int) (au)))) (le_int)) (lw_and1 (lt_not (jA (aK (ok__law_is_long_right T) (hy.1.mono (by decide)) hy.2 rfl T.g__law_is_long_right T.fJ.kp (b__law_is_long_right T.fJ) (aj (ak 1) (au))))))))
      (aF (bH (le_bl)))
      (dH)) <|
    aC (kY PassesOwn.never rfl (gQ rfl T.n_range (aj (le_int) (au))) (aO 2 sc_law.nd)
      (aC (ls_par3 3 4 5 rfl sc_law.nd (aj (aK (ok__law_alphabet T) (hy.1.mono (by decide)) hy.2 rfl T.g__law_alphabet T.fP.kp (b__law_alphabet T.fP) (aj (ak 1) (au))) (aj (aK (ok__law_pair T) (hy.1.mono (by decide)) hy.2 rfl T.g__law_pair T.jT.kp (b__law_pair T.jT) (aj (ak 1) (au))) (aj (aQ bM (le_int) (aK (bU T) (hy.1.mono (by decide)) hy.2 rfl T.cA T.aN.kp (bZ T.aN) (aj (ak 1) (aj (le_int) (au))))) (au))))) <|
    aC (ls_asg (aK (ok__law_even T) (hy.1.mono (by decide)) hy.2 rfl T.g__law_even T.pM.kp (b__law_even T.pM) (aj (ak 1) (aj (ak 3) (aj (le_int) (au))))) (mU rfl (bT (aO 6 sc_law.nd) (bT (aO 7 sc_law.nd) (jK))))) <|
    aC (gY (lt_not (jA (aK (mD T) (hy.1.mono (by decide)) hy.2 rfl T.ni T.cM.kp (nO T.cM) (aj (ak 6) (aj (ak 7) (aj (ak 4) (aj (ak 5) (au))))))))
      (aF (bH (le_bl)))
      (dH)) <|
    aC (kE (aK (ok_waits T) (hy.1.mono (by decide)) hy.2 rfl T.g_waits T.km.kp (b_waits T.km) (aj (ak 6) (aj (ak 7) (aj (dC (aj (bQ (dN (u1 hy.1)) (ak 4) (le_int)) (aj (bQ (dN (u1 hy.1)) (ak 4) (le_int)) (au)))) (aj (aQ eQ (le_int) (ak 5)) (au))))))) <|
    aC (dR 8 sc_law.nd (aK (bU T) (hy.1.mono (by decide)) hy.2 rfl T.cA T.aN.kp (bZ T.aN) (aj (ak 1) (aj (aQ bM (aR gM rfl T.n_len boot_len (aj (ak 6) (au))) (le_int)) (au))))) <|
    aC (dR 9 sc_law.nd (aK (ok_waits T) (hy.1.mono (by decide)) hy.2 rfl T.g_waits T.km.kp (b_waits T.km) (aj (ak 6) (aj (ak 7) (aj (ak 4) (aj (ak 5) (au))))))) <|
    aC (gY (lt_not (jA (aK (ok__law_alike T) (hy.1.mono (by decide)) hy.2 rfl T.g__law_alike T.fY.kp (b__law_alike T.fY) (aj (aK (ok_waits T) (hy.1.mono (by decide)) hy.2 rfl T.g_waits T.km.kp (b_waits T.km) (aj (dJ (ak 6) (dM) (dI (ak 8))) (aj (dJ (ak 7) (dM) (dI (ak 8))) (aj (ak 4) (aj (ak 5) (au)))))) (aj (dJ (ak 9) (dM) (dI (aQ bM (ak 8) (le_int)))) (au))))))
      (aF (bH (le_bl)))
      (dH)) <|
    aF (gY (lt_not (jA (aK (mD T) (hy.1.mono (by decide)) hy.2 rfl T.ni T.cM.kp (nO T.cM) (aj (dJ (ak 6) (dM) (dI (le_int))) (aj (dJ (ak 7) (dM) (dI (le_int))) (aj (dC (aj (bQ (dN (u1 hy.1)) (ak 4) (le_int)) (aj (bQ (dN (u1 hy.1)) (ak 4) (le_int)) (au)))) (aj (aQ eQ (le_int) (ak 5)) (au))))))))
      (aF (bH (le_bl)))
      (dH)))) <|
    aF (bH (le_bl))
theorem ok_law : FnG P w K mg base 9 T.f_law T.d_law ["_law_script"] (spTop 63) :=
  cJ T.F_law sc_law (fun evs h Q ⟨ns, e, _⟩ => by rw [e]; rfl) fun cdv A outer s H hr hG => ⟨_, der_law T ⟨hr, hG⟩, pure_law_k89 T.ad⟩
end
section
variable {w : World} {K : PySem.W.Frag} {h : Heap} {mg : Str → Option Value}
theorem fs_of (X : K.In h) (G : h.Ns mainGlobals mg) (c : He.SaysX fa fn ts [] exB w h K) : ∃ T : Fs w K mg, T.f_law = He.ga K "law" := by
  have cd := c.t.d
  have more := c.more
  obtain ⟨dd_moved, F_moved⟩ := cd.def_ 0 (d := dD_moved) rfl
  obtain ⟨dd_can_be_done, lM⟩ := cd.def_ 1 (d := dD_can_be_done) rfl
  obtain ⟨dd_Prices_drop, oX⟩ := cd.def_ 2 (d := dD_Prices_drop) rfl
  obtain ⟨dd_Prices_put, qN⟩ := cd.def_ 3 (d := dD_Prices_put) rfl
  obtain ⟨dd_step_price, oA⟩ := cd.def_ 4 (d := dD_step_price) rfl
  obtain ⟨dd_is_in_lag, pG⟩ := cd.def_ 5 (d := dD_is_in_lag) rfl
  obtain ⟨dd_all_points, nJ⟩ := cd.def_ 6 (d := dD_all_points) rfl
  obtain ⟨dd_steps_from, nD⟩ := cd.def_ 7 (d := dD_steps_from) rfl
  obtain ⟨dd_grid, F_grid⟩ := cd.def_ 8 (d := dD_grid) rfl
  obtain ⟨dd_is_integer, nM⟩ := cd.def_ 9 (d := dD_is_integer) rfl
  obtain ⟨dd_is_between, jr⟩ := cd.def_ 10 (d := dD_is_between) rfl
  obtain ⟨dd_is_letter, pN⟩ := cd.def_ 11 (d := dD_is_letter) rfl
  obtain ⟨dd_are_costs, pO⟩ := cd.def_ 12 (d := dD_are_costs) rfl
  obtain ⟨dd_is_price_table, iY⟩ := cd.def_ 13 (d := dD_is_price_table) rfl
  obtain ⟨dd_Prices___init__, jH⟩ := cd.def_ 14 (d := rC) rfl
  obtain ⟨dd_rim_points, jt⟩ := cd.def_ 15 (d := dD_rim_points) rfl
  obtain ⟨dd_served_by, pU⟩ := cd.def_ 16 (d := dD_served_by) rfl
  obtain ⟨dd_waits, km⟩ := cd.def_ 17 (d := dD_waits) rfl
  obtain ⟨dd__law_bag, rA⟩ := cd.def_ 18 (d := dD__law_bag) rfl
  obtain ⟨dd__law_take, aN⟩ := cd.def_ 19 (d := dD__law_take) rfl
  obtain ⟨dd__law_one, cI⟩ := cd.def_ 20 (d := dD__law_one) rfl
  obtain ⟨dd__law_mixed, oF⟩ := cd.def_ 21 (d := dD__law_mixed) rfl
  obtain ⟨dd__law_alphabet, fP⟩ := cd.def_ 22 (d := dD__law_alphabet) rfl
  obtain ⟨dd__law_text, jW⟩ := cd.def_ 23 (d := dD__law_text) rfl
  obtain ⟨dd__law_full, iJ⟩ := cd.def_ 24 (d := dD__law_full) rfl
  obtain ⟨dd__law_edited, iK⟩ := cd.def_ 25 (d := dD__law_edited) rfl
  obtain ⟨dd__law_texts, nH⟩ := cd.def_ 26 (d := dD__law_texts) rfl
  obtain ⟨dd__law_pair, jT⟩ := cd.def_ 27 (d := dD__law_pair) rfl
  obtain ⟨dd__law_alike, fY⟩ := cd.def_ 28 (d := dD__law_alike) rfl
  obtain ⟨dd__law_even, pM⟩ := cd.def_ 29 (d := dD__law_even) rfl
  obtain ⟨dd__law_into, jX⟩ := cd.def_ 30 (d := dD__law_into) rfl
  obtain ⟨dd__law_band, pK⟩ := cd.def_ 31 (d := dD__law_band) rfl
  obtain ⟨dd__law_spots, mF⟩ := cd.def_ 32 (d := dD__law_spots) rfl
  obtain ⟨dd__law_through, jR⟩ := cd.def_ 33 (d := dD__law_through) rfl
  obtain ⟨dd__law_traces, lH⟩ := cd.def_ 34 (d := dD__law_traces) rfl
  obtain ⟨dd__law_wait, j5⟩ := cd.def_ 35 (d := dD__law_wait) rfl
  obtain ⟨dd__law_are_waits_right, cM⟩ := cd.def_ 36 (d := mj) rfl
  obtain ⟨dd__law_is_long_right, fJ⟩ := cd.def_ 37 (d := oJ) rfl
  obtain ⟨dd_law, F_law⟩ := cd.def_ 38 (d := dD_law) rfl
  have c_DROP : ∃ t, mg "DROP" = some (.str (S [100]) t) := by
    have q := He.str_ok X G (cd.fact 56 (f := .str "DROP" "d") rfl)
    have e : ("d" : Str) = S [100] := by decide +kernel
    rw [e] at q
    exact q
  have c_KEEP : ∃ t, mg "KEEP" = some (.str (S [107]) t) := by
    have q := He.str_ok X G (cd.fact 60 (f := .str "KEEP" "k") rfl)
    have e : ("k" : Str) = S [107] := by decide +kernel
    rw [e] at q
    exact q
  have c_PUT : ∃ t, mg "PUT" = some (.str (S [112]) t) := by
    have q := He.str_ok X G (cd.fact 62 (f := .str "PUT" "p") rfl)
    have e : ("p" : Str) = S [112] := by decide +kernel
    rw [e] at q
    exact q
  exact ⟨⟨⟨He.ga K "Book", He.ga K "Comparer", He.ga K "Watch", He.ga K "GainTable", He.ga K "GameTable", He.ga K "Lane", He.ga K "Machine", He.ga K "Nearest", He.ga K "Prices", He.ga K "Rulebook", He.ga K "Sender", He.ga K "Speaker", He.ga K "Standing", He.ga K "Writer", He.ga K "Tails", He.ga K "Teasing", He.ga K "VersusTable", He.ga K "WaitTable", He.ga K "TURNED", He.ga K "WORD_OF", He.ga K "WORDS", He.ga K "STEP_OF", He.ga K "EarlyError", He.ga K "AlreadyEnded", He.ga K "BadArrow", He.ga K "BadLine", He.ga K "BadRule", He.ga K "BeyondEnd", He.ga K "Broken", He.ga K "Contradiction", He.ga K "DoesNotFit", He.ga K "Ended", He.ga K "EndsShort", He.ga K "Finished", He.ga K "KeepNotShown", He.ga K "NeedsNoPromise", He.ga K "NoDeed", He.ga K "NoElder", He.ga K "NoRule", He.ga K "NoSaying", He.ga K "NoStand", He.ga K "NoSuchLetter", He.ga K "NoTick", He.ga K "NoWait", He.ga K "NotARing", He.ga K "NotAScript", He.ga K "NotAWalk", He.ga K "NotClaimed", He.ga K "NotComparable", He.ga K "NotHeights", He.ga K "NotLet", He.ga K "NotOnRim", He.ga K "NotSent", He.ga K "NotWhole", He.ga K "Nothing", He.ga K "Stopped", He.ga K "TooMany", He.ga K "UnderLag", He.ga K "UnderTotal", He.ga K "Unsettled", He.ga K "Wrong"⟩, He.fAd K ("moved", none), dd_moved, F_moved, He.glo_ok X G (cd.fact 0 (f := .glo "moved") rfl), He.fAd K ("can_be_done", none), dd_can_be_done, lM, He.glo_ok X G (cd.fact 1 (f := .glo "can_be_done") rfl), He.fAd K ("Prices", some "drop"), dd_Prices_drop, oX, He.meth_ok (cd.fact 2 (f := .meth "Prices" "drop") rfl), He.fAd K ("Prices", some "put"), dd_Prices_put, qN, He.meth_ok (cd.fact 3 (f := .meth "Prices" "put") rfl), He.fAd K ("step_price", none), dd_step_price, oA, He.glo_ok X G (cd.fact 4 (f := .glo "step_price") rfl), He.fAd K ("is_in_lag", none), dd_is_in_lag, pG, He.glo_ok X G (cd.fact 5 (f := .glo "is_in_lag") rfl), He.fAd K ("all_points", none), dd_all_points, nJ, He.glo_ok X G (cd.fact 6 (f := .glo "all_points") rfl), He.fAd K ("steps_from", none), dd_steps_from, nD, He.glo_ok X G (cd.fact 7 (f := .glo "steps_from") rfl), He.fAd K ("grid", none), dd_grid, F_grid, He.glo_ok X G (cd.fact 8 (f := .glo "grid") rfl), He.fAd K ("is_integer", none), dd_is_integer, nM, He.glo_ok X G (cd.fact 9 (f := .glo "is_integer") rfl), He.fAd K ("is_between", none), dd_is_between, jr, He.glo_ok X G (cd.fact 10 (f := .glo "is_between") rfl), He.fAd K ("is_letter", none), dd_is_letter, pN, He.glo_ok X G (cd.fact 11 (f := .glo "is_letter") rfl), He.fAd K ("are_costs", none), dd_are_costs, pO, He.glo_ok X G (cd.fact 12 (f := .glo "are_costs") rfl), He.fAd K ("is_price_table", none), dd_is_price_table, iY, He.glo_ok X G (cd.fact 13 (f := .glo "is_price_table") rfl), He.fAd K ("Prices", some "__init__"), dd_Prices___init__, jH, He.mkr_ok (cd.fact 14 (f := .mkr "Prices") rfl), isiOkB_ok (He.ba (He.ba (He.ba more).1).1).2, He.fAd K ("rim_points", none), dd_rim_points, jt, He.glo_ok X G (cd.fact 15 (f := .glo "rim_points") rfl), He.fAd K ("served_by", none), dd_served_by, pU, He.glo_ok X G (cd.fact 16 (f := .glo "served_by") rfl), He.fAd K ("waits", none), dd_waits, km, He.glo_ok X G (cd.fact 17 (f := .glo "waits") rfl), He.fAd K ("_law_bag", none), dd__law_bag, rA, He.glo_ok X G (cd.fact 18 (f := .glo "_law_bag") rfl), He.fAd K ("_law_take", none), dd__law_take, aN, He.glo_ok X G (cd.fact 19 (f := .glo "_law_take") rfl), He.fAd K ("_law_one", none), dd__law_one, cI, He.glo_ok X G (cd.fact 20 (f := .glo "_law_one") rfl), He.fAd K ("_law_mixed", none), dd__law_mixed, oF, He.glo_ok X G (cd.fact 21 (f := .glo "_law_mixed") rfl), He.fAd K ("_law_alphabet", none), dd__law_alphabet, fP, He.glo_ok X G (cd.fact 22 (f := .glo "_law_alphabet") rfl), He.fAd K ("_law_text", none), dd__law_text, jW, He.glo_ok X G (cd.fact 23 (f := .glo "_law_text") rfl), He.fAd K ("_law_full", none), dd__law_full, iJ, He.glo_ok X G (cd.fact 24 (f := .glo "_law_full") rfl), He.fAd K ("_law_edited", none), dd__law_edited, iK, He.glo_ok X G (cd.fact 25 (f := .glo "_law_edited") rfl), He.fAd K ("_law_texts", none), dd__law_texts, nH, He.glo_ok X G (cd.fact 26 (f := .glo "_law_texts") rfl), He.fAd K ("_law_pair", none), dd__law_pair, jT, He.glo_ok X G (cd.fact 27 (f := .glo "_law_pair") rfl), He.fAd K ("_law_alike", none), dd__law_alike, fY, He.glo_ok X G (cd.fact 28 (f := .glo "_law_alike") rfl), He.fAd K ("_law_even", none), dd__law_even, pM, He.glo_ok X G (cd.fact 29 (f := .glo "_law_even") rfl), He.fAd K ("_law_into", none), dd__law_into, jX, He.glo_ok X G (cd.fact 30 (f := .glo "_law_into") rfl), He.fAd K ("_law_band", none), dd__law_band, pK, He.glo_ok X G (cd.fact 31 (f := .glo "_law_band") rfl), He.fAd K ("_law_spots", none), dd__law_spots, mF, He.glo_ok X G (cd.fact 32 (f := .glo "_law_spots") rfl), He.fAd K ("_law_through", none), dd__law_through, jR, He.glo_ok X G (cd.fact 33 (f := .glo "_law_through") rfl), He.fAd K ("_law_traces", none), dd__law_traces, lH, He.glo_ok X G (cd.fact 34 (f := .glo "_law_traces") rfl), He.fAd K ("_law_wait", none), dd__law_wait, j5, He.glo_ok X G (cd.fact 35 (f := .glo "_law_wait") rfl), He.fAd K ("_law_are_waits_right", none), dd__law_are_waits_right, cM, He.glo_ok X G (cd.fact 36 (f := .glo "_law_are_waits_right") rfl), He.fAd K ("_law_is_long_right", none), dd__law_is_long_right, fJ, He.glo_ok X G (cd.fact 37 (f := .glo "_law_is_long_right") rfl), He.fAd K ("law", none), dd_law, F_law, He.glo_ok X G (cd.fact 38 (f := .glo "law") rfl), He.glo_ok X G (cd.fact 39 (f := .glo "Prices") rfl), sclsB_ok (He.ba (He.ba (He.ba (He.ba more).1).1).1).1, slotB_ok (He.ba (He.ba (He.ba (He.ba more).1).1).1).2, He.free_ok X G (cd.fact 40 (f := .free "abs") rfl), He.free_ok X G (cd.fact 41 (f := .free "all") rfl), He.free_ok X G (cd.fact 42 (f := .free "any") rfl), He.free_ok X G (cd.fact 43 (f := .free "bool") rfl), He.free_ok X G (cd.fact 44 (f := .free "dict") rfl), He.free_ok X G (cd.fact 45 (f := .free "int") rfl), He.free_ok X G (cd.fact 46 (f := .free "isinstance") rfl), He.free_ok X G (cd.fact 47 (f := .free "len") rfl), He.free_ok X G (cd.fact 48 (f := .free "list") rfl), He.free_ok X G (cd.fact 49 (f := .free "max") rfl), He.free_ok X G (cd.fact 50 (f := .free "min") rfl), He.free_ok X G (cd.fact 51 (f := .free "range") rfl), He.free_ok X G (cd.fact 52 (f := .free "repr") rfl), He.free_ok X G (cd.fact 53 (f := .free "set") rfl), He.free_ok X G (cd.fact 54 (f := .free "sorted") rfl), He.free_ok X G (cd.fact 55 (f := .free "tuple") rfl), c_DROP, He.int_ok X G (cd.fact 57 (f := .int "GREATEST_LETTER" 1000000000) rfl), He.int_ok X G (cd.fact 58 (f := .int "GREATEST_PRICE" 9) rfl), He.ga K "IN_ORDER", He.glo_ok X G (cd.fact 59 (f := .glo "IN_ORDER") rfl), tupB_ok (He.ba (He.ba more).1).2, c_KEEP, He.ga K "PLAIN", He.glo_ok X G (cd.fact 61 (f := .glo "PLAIN") rfl), tupB_ok (He.ba more).2, c_PUT⟩, rfl⟩
end
end Y
open PySem PySem.W PySem.Calls PyProof.Rows
theorem PySem.Challenge.cw_saidearly_k89_waits_of_two_texts_holds : PySem.Challenge.rw_saidearly_k89_waits_of_two_texts.Holds := by
  refine Y.pre_saidearly_k89_waits_of_two_texts fun w K mg fa h KX c G hmg => ?_
  obtain ⟨T, eT⟩ := Y.fs_of KX G c
  have e := T.g_law.symm.trans hmg
  have e2 : T.f_law = fa := Value.ref.inj (Option.some.inj e)
  subst e2
  have b := L2.FunD.bindsA (ps := ["_law_script"]) T.F_law fun _ _ _ _ _ _ us hl => match us, hl with | [_], _ => rfl
  exact ⟨T.d_law, fun s u => b s [u] rfl, fun base _ _ => Y.ok_law T⟩
