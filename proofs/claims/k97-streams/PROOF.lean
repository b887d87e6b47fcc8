import PyProof.Rows.All
import Wide.All
import OpenK.AllK
import Wide.FinOn
import HandS.Base
import HandS.Call
import HandS.List
import HandS.Comp
import HandS.Dict
import HandS.Iter
import HandS.Text
import HandS.More
import HandS.Exc
import HandS.Slots
import KE.KIsNot
import KE.KIsAll
import HandS.Wide
import HandS.TupAny
import KE.DataEq
import HandS.TryOnly
import HandS.Words
import HandS.Defaults
import HandS.Ends
import HandS.HeadEnd
import HandS.TupMul
import HandS.WordsDict
import HandS.RaiseMore
import KE.GoesNew
import KE.GoesEnum
import PyProof.ReprLen
import HandS.Star
import HandS.Deep
import HandS.SetFor
import HandS.Zip
import HandS.Style
import KE.KIndexOf
import HandS.IsInst
import HandS.DictComp
import HandS.SlotsOwn
import HandS.Head0
import HandS.Head1
import HandS.Head2
import HandS.HeadHook1
import HandS.HeadHook2
import HandS.HeadHook3
import HandS.HeadHook4
import HandS.Conv
import PyProof.EnumMake
import KE.KDictDisplayH
import KE.KRevSl
import KE.KDictList
import HandS.Flow
import HandS.DictEq
import HandS.ExcInit
import HandS.ExcField
import HandS.ExcOwn
import KE.KExcSuper
import KE.KExcRaise
import HandS.TryMany
import KE.GoesEnumKw
import HandS.SortKw
import HandS.Finally
import KE.KDictKeyed
import KE.KDictPairs
import KE.KDictZip
import PyProof.Rows.ZipGen
import PyProof.ZipIter
import PyProof.Rows.SortShellAny
import HandS.Strs
import KE.KEqNest
import PyProof.NeKinds
import HandS.Codes
import KE.KStateDown
import PySem.Challenge.RW_saidearly_k97_whole_streams_written_and
set_option Elab.async false
set_option linter.all false
set_option maxRecDepth 100000
set_option maxHeartbeats 0
namespace Y
open PySem PySem.Spec PyProof.Rows L2

inductive EV where
  | non | bl (b : Bool) | int (i : Int) | str (s : List Nat) | tup (xs : List EV) | ktup (xs : List EV) | ref (r : Nat) | adr (a : Addr) | ty (n : String)
inductive EO where
  | lst (xs : List EV) | frz (xs : List EV) | dic (kvs : List (EV × EV)) | dct (kvs : List (EV × EV)) | ins (C : Addr) (fs : List (Str × EV)) | slo (C : Addr) (vs : List (Option EV)) | dlk (o : Obj) (l : List (L2.Key × V)) (kvs : List (EV × EV)) | xob (fs : List (Str × EV)) | mark (m : Nat → Addr) (n : Nat) (H : Hp) | gone
abbrev En := List (Option EV)
abbrev EH := List EO
abbrev EK := EV → EH → Prop
abbrev LT := En → EH → EK → Prop
abbrev S (l : List Nat) : Str := ⟨l.toArray⟩

def NoTup (u : HO) : Prop := (∀ xs, u ≠ .tup xs) ∧ (∀ q xs, u ≠ .frz q (.tup xs)) ∧ (∀ q xs, u ≠ .frz q (.lst xs)) ∧ (∀ l, u ≠ .xd l) ∧ ∀ y, u ≠ .own y
def FrzL (K : PySem.W.Frag) (H : Hp) (a : Addr) (xs : List V) : Prop := (∃ o, H a = some (.frz o (.lst xs))) ∨
  ∃ (o : Obj) (its : Array Value) (n : Nat), K.lookup a = some o ∧ o.cls = .type "list" ∧ o.dict = none ∧ o.data = .seq its n ∧ its.size ≤ sizeLine ∧ Vals xs its.toList
theorem FrzL.sql {K : PySem.W.Frag} {H : Hp} {a : Addr} {xs : List V} (h : FrzL K H a xs) : SqL K H a xs := by
  rcases h with ⟨o, h⟩ | h
  · exact .inl (.inr ⟨o, h⟩)
  · exact .inr h
def isF : EO → Bool
  | .frz _ => true
  | .xob _ => true
  | .mark .. => true
  | _ => false
def keysL : List EV → Option (List L2.Key)
  | [] => some []
  | .int i :: r => (keysL r).map (Sum.inl i :: ·)
  | .str s :: r => (keysL r).map (Sum.inr (S s) :: ·)
  | _ => none
def keyL : EV → Option (List L2.Key)
  | .tup ks => keysL ks
  | _ => none
structure Ex (K : PySem.W.Frag) (m : Nat → Addr) (n : Nat) (H : Hp) (m' : Nat → Addr) (n' : Nat) (H' : Hp) : Prop where
  le : n ≤ n'
  eq : ∀ r, r < n → m' r = m r
  tup : ∀ a xs, SqT K H a xs → SqT K H' a xs
  tk : ∀ a xs, H a = some (.tup xs) → H' a = some (.tup xs)

structure IsiOk (K : PySem.W.Frag) (C : Addr) : Prop where
  pg : PySem.W.plainGet K C "__class__" = true
  ic : PySem.W.isClsIn K C = true
  cl : PySem.W.findIn K (.ref C) "__class__" = some (some (.builtin "object.__class__"))
  gt : PySem.W.specialIn K (.builtin "object.__class__") "__get__" = some (some (.builtin "getset_descriptor.__get__"))
  tk : PySem.W.takesIn K (.builtin "object.__class__") = some true
  mo : PySem.W.mroIn K C (.type "object") = some true
  ty : ∀ T ∈ ["int", "bool", "str", "tuple", "dict", "list"], PySem.W.kitOne K (.ref C) (.type T) = some false
section rel
variable (K : PySem.W.Frag) (m : Nat → Addr) (n : Nat) (H : Hp)
mutual
def RelE : EV → V → Prop
  | .non, v => v = .non
  | .bl b, v => v = .bl b
  | .int i, v => v = .int i
  | .str s, v => v = .str (S s)
  | .tup xs, v => ∃ a vs, v = .ref a ∧ H a = some (.tup vs) ∧ RelEs xs vs
  | .ktup xs, v => ∃ a vs, v = .ref a ∧ SqT K H a vs ∧ RelEs xs vs
  | .ref r, v => r < n ∧ v = .ref (m r)
  | .adr a, v => v = .ref a
  | .ty t, v => v = .ty t
def RelEs : List EV → List V → Prop
  | [], vs => vs = []
  | x :: xs, vs => ∃ v r, vs = v :: r ∧ RelE x v ∧ RelEs xs r
end
def RelKV : List (EV × EV) → List (L2.Key × V) → Prop
  | [], l => l = []
  | (k, x) :: r, l => ∃ k' v l', l = (k', v) :: l' ∧ RelE K m n H k (kV k') ∧ RelE K m n H x v ∧ RelKV r l'
def RelKT : List (EV × EV) → List (List L2.Key × V) → Prop
  | [], l => l = []
  | (k, x) :: r, l => ∃ k' v l', l = (k', v) :: l' ∧ keyL k = some k' ∧ RelE K m n H x v ∧ RelKT r l'
def RelFs : List (Str × EV) → List (Str × V) → Prop
  | [], l => l = []
  | (f, x) :: r, l => ∃ v l', l = (f, v) :: l' ∧ RelE K m n H x v ∧ RelFs r l'
def RelO : EO → Addr → Prop
  | .lst xs, a => ∃ vs, H a = some (.lst vs) ∧ RelEs K m n H xs vs
  | .frz xs, a => ∃ vs, FrzL K H a vs ∧ RelEs K m n H xs vs
  | .dic kvs, a => ∃ l, H a = some (.dK l) ∧ RelKV K m n H kvs l
  | .dct kvs, a => ∃ l, H a = some (.dT l) ∧ RelKT K m n H kvs l
  | .ins C fs, a => ∃ dx l, H a = some (.ins C dx l) ∧ RelFs K m n H fs l
  | .slo C vs, a => IsiOk K C ∧ ∃ dx ws, SlX.Slt H a C dx ws ∧ dx ≠ a ∧ (H dx = some (.own a) ∨ H dx = some (.xd [])) ∧ ∀ (i : Nat) (v : EV), vs[i]? = some (some v) → ∃ w, ws[i]? = some (some w) ∧ RelE K m n H v w
  | .dlk o l kvs, a => H a = some (.frz o (.dK l)) ∧ RelKV K m n H kvs l
  | .xob fs, a => ∃ l, H a = some (.xd l) ∧ RelFs K m n H fs l
  | .mark m0 n0 H0, _ => Ex K m0 n0 H0 m n H
  | .gone, a => ∃ o, H a = some o ∧ NoTup o
end rel
structure RelH (K : PySem.W.Frag) (m : Nat → Addr) (h : EH) (H : Hp) : Prop where
  obj : ∀ r o, h[r]? = some o → RelO K m h.length H o (m r)
  inj : ∀ r q o u, h[r]? = some o → h[q]? = some u → isF o = false → isF u = false → m r = m q → r = q
def RelN (K : PySem.W.Frag) (m : Nat → Addr) (n : Nat) (H : Hp) (env : En) (σ : L2.St) : Prop :=
  env.length = σ.length ∧ ∀ (i : Nat) (v : EV), env[i]? = some (some v) → ∃ x, σ[i]? = some (some x) ∧ RelE K m n H v x
section
variable {K : PySem.W.Frag} {m m' m2 : Nat → Addr} {n n' n2 : Nat} {H H' H2 : Hp}
theorem Ex.refl : Ex K m n H m n H := ⟨Nat.le_refl _, fun _ _ => rfl, fun _ _ h => h, fun _ _ h => h⟩
theorem Ex.trans (a : Ex K m n H m' n' H') (b : Ex K m' n' H' m2 n2 H2) : Ex K m n H m2 n2 H2 :=
  ⟨Nat.le_trans a.le b.le, fun r h => (b.eq r (Nat.lt_of_lt_of_le h a.le)).trans (a.eq r h), fun x xs h => b.tup x xs (a.tup x xs h), fun x xs h => b.tk x xs (a.tk x xs h)⟩
mutual
theorem RelE.ex (E : Ex K m n H m' n' H') : ∀ (e : EV) (v : V), RelE K m n H e v → RelE K m' n' H' e v
  | .non, v, h => by rw [RelE] at h ⊢; exact h
  | .bl _, v, h => by rw [RelE] at h ⊢; exact h
  | .int _, v, h => by rw [RelE] at h ⊢; exact h
  | .str _, v, h => by rw [RelE] at h ⊢; exact h
  | .adr _, v, h => by rw [RelE] at h ⊢; exact h
  | .ty _, v, h => by rw [RelE] at h ⊢; exact h
  | .ref r, v, h => by
    rw [RelE] at h ⊢
    exact ⟨Nat.lt_of_lt_of_le h.1 E.le, by rw [E.eq r h.1]; exact h.2⟩
  | .tup xs, v, h => by
    rw [RelE] at h ⊢
    obtain ⟨a, vs, e, q, r⟩ := h
    exact ⟨a, vs, e, E.tk a vs q, RelEs.ex E xs vs r⟩
  | .ktup xs, v, h => by
    rw [RelE] at h ⊢
    obtain ⟨a, vs, e, q, r⟩ := h
    exact ⟨a, vs, e, E.tup a vs q, RelEs.ex E xs vs r⟩
theorem RelEs.ex (E : Ex K m n H m' n' H') : ∀ (es : List EV) (vs : List V), RelEs K m n H es vs → RelEs K m' n' H' es vs
  | [], vs, h => by rw [RelEs] at h ⊢; exact h
  | x :: xs, vs, h => by
    rw [RelEs] at h ⊢
    obtain ⟨v, r, e, q, t⟩ := h
    exact ⟨v, r, e, RelE.ex E x v q, RelEs.ex E xs r t⟩
end
theorem RelKV.ex (E : Ex K m n H m' n' H') : ∀ (l : List (EV × EV)) (l' : List (L2.Key × V)), RelKV K m n H l l' → RelKV K m' n' H' l l'
  | [], l', h => h
  | (k, x) :: r, l', h => by
    obtain ⟨k', v, l2, e, a, b, c⟩ := h
    exact ⟨k', v, l2, e, RelE.ex E _ _ a, RelE.ex E _ _ b, RelKV.ex E r l2 c⟩
theorem RelKT.ex (E : Ex K m n H m' n' H') : ∀ (l : List (EV × EV)) (l' : List (List L2.Key × V)), RelKT K m n H l l' → RelKT K m' n' H' l l'
  | [], l', h => h
  | (k, x) :: r, l', h => by
    obtain ⟨k', v, l2, e, a, b, c⟩ := h
    exact ⟨k', v, l2, e, a, RelE.ex E _ _ b, RelKT.ex E r l2 c⟩
theorem RelFs.ex (E : Ex K m n H m' n' H') : ∀ (l : List (Str × EV)) (l' : List (Str × V)), RelFs K m n H l l' → RelFs K m' n' H' l l'
  | [], l', h => h
  | (k, x) :: r, l', h => by
    obtain ⟨v, l2, e, b, c⟩ := h
    exact ⟨v, l2, e, RelE.ex E _ _ b, RelFs.ex E r l2 c⟩
theorem RelN.ex (E : Ex K m n H m' n' H') {env : En} {σ : L2.St} (R : RelN K m n H env σ) : RelN K m' n' H' env σ :=
  ⟨R.1, fun i v h => let ⟨x, a, b⟩ := R.2 i v h; ⟨x, a, RelE.ex E _ _ b⟩⟩
theorem RelO.ex (E : Ex K m n H m' n' H') {o : EO} {a : Addr} (he : H' a = H a) (hx : ∀ b, (H b = some (.xd []) → H' b = some (.xd [])) ∧ (H b = some (.own a) → H' b = some (.own a))) (R : RelO K m n H o a) : RelO K m' n' H' o a := by
  cases o with
  | lst xs => obtain ⟨vs, e, r⟩ := R; exact ⟨vs, he.trans e, RelEs.ex E _ _ r⟩
  | frz xs =>
    obtain ⟨vs, e, r⟩ := R
    refine ⟨vs, ?_, RelEs.ex E _ _ r⟩
    rcases e with ⟨o, e⟩ | e
    · exact .inl ⟨o, he.trans e⟩
    · exact .inr e
  | dic xs => obtain ⟨vs, e, r⟩ := R; exact ⟨vs, he.trans e, RelKV.ex E _ _ r⟩
  | dct xs => obtain ⟨vs, e, r⟩ := R; exact ⟨vs, he.trans e, RelKT.ex E _ _ r⟩
  | ins C fs => obtain ⟨dx, vs, e, r⟩ := R; exact ⟨dx, vs, he.trans e, RelFs.ex E _ _ r⟩
  | xob fs => obtain ⟨l, e, r⟩ := R; exact ⟨l, he.trans e, RelFs.ex E _ _ r⟩
  | mark m0 n0 H0 => exact Ex.trans R E
  | slo C fs =>
    obtain ⟨io, dx, ws, e, ne, hd, r⟩ := R
    refine ⟨io, dx, ws, ?_, ne, hd.imp (hx _).2 (hx _).1, fun i v q => let ⟨w, a, b⟩ := r i v q; ⟨w, a, RelE.ex E _ _ b⟩⟩
    rcases e with ⟨e, z⟩ | ⟨e, z⟩
    · exact .inl ⟨he.trans e, z⟩
    · exact .inr ⟨he.trans e, (hx _).1 z⟩
  | dlk o l xs => obtain ⟨e, r⟩ := R; exact ⟨he.trans e, RelKV.ex E _ _ r⟩
  | gone => obtain ⟨o, e, r⟩ := R; exact ⟨o, he.trans e, r⟩
theorem RelO.there {o : EO} {a : Addr} (R : RelO K m n H o a) (hf : isF o = false) : ∃ u, H a = some u ∧ NoTup u := by
  cases o with
  | lst xs => obtain ⟨vs, e, r⟩ := R; exact ⟨_, e, fun _ z => (nomatch z), fun _ _ z => (nomatch z), fun _ _ z => (nomatch z), fun _ z => (nomatch z), fun _ z => nomatch z⟩
  | frz xs => cases hf
  | dic xs => obtain ⟨vs, e, r⟩ := R; exact ⟨_, e, fun _ z => (nomatch z), fun _ _ z => (nomatch z), fun _ _ z => (nomatch z), fun _ z => (nomatch z), fun _ z => nomatch z⟩
  | dct xs => obtain ⟨vs, e, r⟩ := R; exact ⟨_, e, fun _ z => (nomatch z), fun _ _ z => (nomatch z), fun _ _ z => (nomatch z), fun _ z => (nomatch z), fun _ z => nomatch z⟩
  | ins C fs => obtain ⟨dx, vs, e, r⟩ := R; exact ⟨_, e, fun _ z => (nomatch z), fun _ _ z => (nomatch z), fun _ _ z => (nomatch z), fun _ z => (nomatch z), fun _ z => nomatch z⟩
  | xob fs => cases hf
  | mark m0 n0 H0 => cases hf
  | slo C fs =>
    obtain ⟨_, dx, ws, e, _, _, r⟩ := R
    rcases e with ⟨e, z⟩ | ⟨e, z⟩
    · exact ⟨_, e, fun _ z => (nomatch z), fun _ _ z => (nomatch z), fun _ _ z => (nomatch z), fun _ z => (nomatch z), fun _ z => nomatch z⟩
    · refine ⟨_, e, ?_⟩
      unfold SlX.SlO
      exact ⟨fun _ z => (nomatch z), fun _ _ z => (nomatch z), fun _ _ z => (nomatch z), fun _ z => (nomatch z), fun _ z => nomatch z⟩
  | dlk o l xs => obtain ⟨e, r⟩ := R; exact ⟨_, e, fun _ z => (nomatch z), fun _ _ z => (by cases z), fun _ _ z => (by cases z), fun _ z => (nomatch z), fun _ z => nomatch z⟩
  | gone => obtain ⟨o, e, r⟩ := R; exact ⟨o, e, r⟩
theorem RelO.off (E : Ex K m n H m' n' H') {o : EO} {a p : Addr} (R : RelO K m n H o a) (hp : ∀ u, H p = some u → NoTup u) (h : isF o = false → a ≠ p) (he : a ≠ p → H' a = H a) (hx : ∀ b, (H b = some (.xd []) → H' b = some (.xd [])) ∧ (H b = some (.own a) → H' b = some (.own a))) : RelO K m' n' H' o a := by
  by_cases z : a = p
  · subst z
    cases o with
    | frz xs =>
      obtain ⟨vs, e, r⟩ := R
      refine ⟨vs, ?_, RelEs.ex E _ _ r⟩
      rcases e with ⟨o, e⟩ | e
      · exact absurd rfl ((hp _ e).2.2.1 o vs)
      · exact .inr e
    | xob fs =>
      obtain ⟨l, e, r⟩ := R
      exact absurd rfl ((hp _ e).2.2.2.1 l)
    | mark m0 n0 H0 => exact Ex.trans R E
    | _ => exact absurd rfl (h rfl)
  · exact R.ex E (he z) hx
theorem RelEs.length : ∀ {es : List EV} {vs : List V}, RelEs K m n H es vs → es.length = vs.length
  | [], vs, h => by rw [RelEs] at h; subst h; rfl
  | x :: xs, vs, h => by
    rw [RelEs] at h
    obtain ⟨v, r, e, _, t⟩ := h
    subst e
    simp [RelEs.length t]
theorem RelEs.at : ∀ {es : List EV} {vs : List V} {i : Nat} {x : EV}, RelEs K m n H es vs → es[i]? = some x → ∃ v, vs[i]? = some v ∧ RelE K m n H x v
  | [], vs, i, x, h, e => by simp at e
  | y :: ys, vs, 0, x, h, e => by
    rw [RelEs] at h
    obtain ⟨v, r, rfl, q, t⟩ := h
    simp at e; subst e
    exact ⟨v, rfl, q⟩
  | y :: ys, vs, i + 1, x, h, e => by
    rw [RelEs] at h
    obtain ⟨v, r, rfl, q, t⟩ := h
    obtain ⟨u, a, b⟩ := RelEs.at (i := i) (x := x) t (by simpa using e)
    exact ⟨u, by simpa using a, b⟩
theorem RelEs.app : ∀ {es fs : List EV} {vs us : List V}, RelEs K m n H es vs → RelEs K m n H fs us → RelEs K m n H (es ++ fs) (vs ++ us)
  | [], fs, vs, us, h, g => by rw [RelEs] at h; subst h; exact g
  | y :: ys, fs, vs, us, h, g => by
    rw [RelEs] at h
    obtain ⟨v, r, rfl, q, t⟩ := h
    rw [List.cons_append, List.cons_append, RelEs]
    exact ⟨v, r ++ us, rfl, q, RelEs.app t g⟩
theorem RelEs.nil : RelEs K m n H [] [] := by rw [RelEs]
theorem RelEs.cons {x : EV} {v : V} {xs : List EV} {vs : List V} (a : RelE K m n H x v) (b : RelEs K m n H xs vs) : RelEs K m n H (x :: xs) (v :: vs) := by
  rw [RelEs]; exact ⟨v, vs, rfl, a, b⟩
theorem RelEs.one {x : EV} {v : V} (a : RelE K m n H x v) : RelEs K m n H [x] [v] := .cons a .nil
theorem RelEs.take : ∀ {es : List EV} {vs : List V} (k : Nat), RelEs K m n H es vs → RelEs K m n H (es.take k) (vs.take k)
  | _, _, 0, _ => by simpa using RelEs.nil
  | [], vs, k + 1, h => by rw [RelEs] at h; subst h; simpa using RelEs.nil
  | y :: ys, vs, k + 1, h => by
    rw [RelEs] at h
    obtain ⟨v, r, rfl, q, t⟩ := h
    rw [List.take_succ_cons, List.take_succ_cons]
    exact .cons q (RelEs.take k t)
theorem RelEs.drop : ∀ {es : List EV} {vs : List V} (k : Nat), RelEs K m n H es vs → RelEs K m n H (es.drop k) (vs.drop k)
  | _, _, 0, h => by simpa using h
  | [], vs, k + 1, h => by rw [RelEs] at h; subst h; simpa using RelEs.nil
  | y :: ys, vs, k + 1, h => by
    rw [RelEs] at h
    obtain ⟨v, r, rfl, q, t⟩ := h
    rw [List.drop_succ_cons, List.drop_succ_cons]
    exact RelEs.drop k t
theorem RelEs.set {x : EV} {v : V} (a : RelE K m n H x v) : ∀ {es : List EV} {vs : List V} (k : Nat), RelEs K m n H es vs → RelEs K m n H (es.set k x) (vs.set k v)
  | [], vs, k, h => by rw [RelEs] at h; subst h; simpa using RelEs.nil
  | y :: ys, vs, 0, h => by
    rw [RelEs] at h
    obtain ⟨w, r, rfl, q, t⟩ := h
    exact .cons a t
  | y :: ys, vs, k + 1, h => by
    rw [RelEs] at h
    obtain ⟨w, r, rfl, q, t⟩ := h
    exact .cons q (RelEs.set a k t)
theorem RelEs.reverse : ∀ {es : List EV} {vs : List V}, RelEs K m n H es vs → RelEs K m n H es.reverse vs.reverse
  | [], vs, h => by rw [RelEs] at h; subst h; simpa using RelEs.nil
  | y :: ys, vs, h => by
    rw [RelEs] at h
    obtain ⟨w, r, rfl, q, t⟩ := h
    rw [List.reverse_cons, List.reverse_cons]
    exact RelEs.app (RelEs.reverse t) (.one q)

theorem sqT_upd {a p : Addr} {xs : List V} {o : HO} (h : SqT K H a xs) (hp : ∀ u, H p = some u → NoTup u) : SqT K (upd H p o) a xs := by
  rcases h with h | h
  · refine .inl ?_
    have ne : a ≠ p := by
      rintro rfl
      rcases h with h | ⟨q, h⟩
      · exact (hp _ h).1 _ rfl
      · exact (hp _ h).2.1 _ _ rfl
    rcases h with h | ⟨q, h⟩
    · exact .inl (by rw [upd_ne ne]; exact h)
    · exact .inr ⟨q, by rw [upd_ne ne]; exact h⟩
  · exact .inr h
theorem upd_xd {p a : Addr} {o : HO} (hp : ∀ u, H p = some u → NoTup u) : ∀ b, (H b = some (.xd []) → upd H p o b = some (.xd [])) ∧ (H b = some (.own a) → upd H p o b = some (.own a)) := fun b => by
  refine ⟨fun e => ?_, fun e => ?_⟩
  · have ne : b ≠ p := by
      rintro rfl
      exact (hp _ e).2.2.2.1 _ rfl
    rw [upd_ne ne]; exact e
  · have ne : b ≠ p := by
      rintro rfl
      exact (hp _ e).2.2.2.2 _ rfl
    rw [upd_ne ne]; exact e
theorem free_no {p : Addr} (hp : H p = none) : ∀ u, H p = some u → NoTup u := fun u e => by rw [hp] at e; cases e
theorem tk_upd {a p : Addr} {xs : List V} {o : HO} (h : H a = some (.tup xs)) (hp : ∀ u, H p = some u → NoTup u) : upd H p o a = some (.tup xs) := by
  have ne : a ≠ p := by
    rintro rfl
    exact (hp _ h).1 _ rfl
  rw [upd_ne ne]; exact h
theorem Ex.tup1 {p : Addr} {o : HO} (hp : H p = none) : Ex K m n H m n (upd H p o) :=
  ⟨Nat.le_refl _, fun _ _ => rfl, fun a xs h => sqT_upd h (free_no hp), fun a xs h => tk_upd h (free_no hp)⟩
theorem RelH.tup {h : EH} {p : Addr} {o : HO} (R : RelH K m h H) (hp : H p = none) : RelH K m h (upd H p o) := by
  refine ⟨fun r e hr => ?_, R.inj⟩
  have q := R.obj r e hr
  refine q.off (Ex.tup1 hp) (free_no hp) (fun hf => ?_) (fun z => upd_ne z) (upd_xd (free_no hp))
  obtain ⟨u, hu, _⟩ := q.there hf
  exact ne_of_none hu hp
def mput (m : Nat → Addr) (n : Nat) (p : Addr) : Nat → Addr := fun r => if r = n then p else m r
theorem mput_lt {p : Addr} {r : Nat} (h : r < n) : mput m n p r = m r := if_neg (Nat.ne_of_lt h)
theorem mput_at {p : Addr} : mput m n p n = p := if_pos rfl
theorem Ex.new {h : EH} {p : Addr} {o : HO} {e : EO} (hp : H p = none) : Ex K m h.length H (mput m h.length p) (h ++ [e]).length (upd H p o) :=
  ⟨by simp, fun r hr => mput_lt hr, fun a xs q => sqT_upd q (free_no hp), fun a xs q => tk_upd q (free_no hp)⟩
theorem app_cases {h : EH} {e u : EO} {r : Nat} (hr : (h ++ [e])[r]? = some u) : (r < h.length ∧ h[r]? = some u) ∨ (r = h.length ∧ u = e) := by
  by_cases q : r < h.length
  · rw [List.getElem?_append_left q] at hr
    exact .inl ⟨q, hr⟩
  · rw [List.getElem?_append_right (by omega)] at hr
    have : r - h.length = 0 := by
      have := (List.getElem?_eq_some_iff.mp hr).1
      simp at this; omega
    rw [this] at hr
    simp at hr
    exact .inr ⟨by omega, hr.symm⟩
theorem RelH.new {h : EH} {p : Addr} {o : HO} {e : EO} (R : RelH K m h H) (hp : H p = none)
    (new : RelO K (mput m h.length p) (h ++ [e]).length (upd H p o) e p) : RelH K (mput m h.length p) (h ++ [e]) (upd H p o) := by
  have there : ∀ r u, h[r]? = some u → isF u = false → m r ≠ p := fun r u hr hf => by
    obtain ⟨w, hw, _⟩ := (R.obj r u hr).there hf
    exact ne_of_none hw hp
  refine ⟨fun r u hr => ?_, fun r q u v hr hq fu fv z => ?_⟩
  · rcases app_cases hr with ⟨q, hr⟩ | ⟨rfl, rfl⟩
    · rw [mput_lt q]
      exact (R.obj r u hr).off (Ex.new hp) (free_no hp) (there r u hr) (fun z => upd_ne z) (upd_xd (free_no hp))
    · rw [mput_at]; exact new
  · rcases app_cases hr with ⟨a, hr'⟩ | ⟨a, a'⟩ <;> rcases app_cases hq with ⟨b, hq'⟩ | ⟨b, b'⟩
    · rw [mput_lt a, mput_lt b] at z; exact R.inj r q u v hr' hq' fu fv z
    · rw [b, mput_lt a, mput_at] at z; exact absurd z (there r u hr' fu)
    · rw [a, mput_lt b, mput_at] at z; exact absurd z.symm (there q v hq' fv)
    · rw [a, b]
theorem RelH.tops {h : EH} {r : Nat} {e : EO} (R : RelH K m h H) (hr : h[r]? = some e) (hf : isF e = false := by rfl) : ∀ u, H (m r) = some u → NoTup u := fun u z => by
  obtain ⟨w, hw, nt⟩ := (R.obj r e hr).there hf
  rw [hw] at z; cases z; exact nt
theorem Ex.write {h : EH} {r : Nat} {o : HO} {e e' : EO} (R : RelH K m h H) (hr : h[r]? = some e) (hf : isF e = false := by rfl) : Ex K m h.length H m (h.set r e').length (upd H (m r) o) :=
  ⟨by simp, fun _ _ => rfl, fun a xs q => sqT_upd q (R.tops hr hf), fun a xs q => tk_upd q (R.tops hr hf)⟩
theorem RelH.write {h : EH} {r : Nat} {o : HO} {e e' : EO} (R : RelH K m h H) (hr : h[r]? = some e)
    (new : RelO K m (h.set r e').length (upd H (m r) o) e' (m r)) (hf : isF e = false := by rfl) : RelH K m (h.set r e') (upd H (m r) o) := by
  have hlt := (List.getElem?_eq_some_iff.mp hr).1
  have set_cases : ∀ {q : Nat} {u : EO}, (h.set r e')[q]? = some u → (q = r ∧ u = e') ∨ (q ≠ r ∧ h[q]? = some u) := fun {q u} hq => by
    by_cases z : r = q
    · subst z
      rw [List.getElem?_set_self hlt] at hq
      cases hq
      exact .inl ⟨rfl, rfl⟩
    · rw [List.getElem?_set_ne z] at hq
      exact .inr ⟨fun y => z y.symm, hq⟩
  refine ⟨fun q u hq => ?_, fun q p u v hq hp fu fv z => ?_⟩
  · rcases set_cases hq with ⟨rfl, rfl⟩ | ⟨z, hq⟩
    · exact new
    · exact (R.obj q u hq).off (Ex.write R hr hf) (R.tops hr hf) (fun fu y => z (R.inj q r u e hq hr fu hf y)) (fun y => upd_ne y) (upd_xd (R.tops hr hf))
  · rcases set_cases hq with ⟨a, a'⟩ | ⟨a, hq'⟩ <;> rcases set_cases hp with ⟨b, b'⟩ | ⟨b, hp'⟩
    · rw [a, b]
    · rw [a] at z; exact absurd (R.inj p r v e hp' hr fv hf z.symm) b
    · rw [b] at z; exact absurd (R.inj q r u e hq' hr fu hf z) a
    · exact R.inj q p u v hq' hp' fu fv z

def Kon (K : PySem.W.Frag) (m : Nat → Addr) (n : Nat) (H : Hp) (P : EK) (Q : VK) : Prop :=
  ∀ v h', P v h' → ∀ (m' : Nat → Addr) (H' : Hp) (x : V), Ex K m n H m' h'.length H' → RelH K m' h' H' → RelE K m' h'.length H' v x → Q x H'
theorem Kon.ex {P : EK} {Q : VK} (E : Ex K m n H m' n' H') (k : Kon K m n H P Q) : Kon K m' n' H' P Q := fun v h' p m2 H2 x E2 R r => k v h' p m2 H2 x (E.trans E2) R r
structure At (K : PySem.W.Frag) (env : En) (h : EH) (m : Nat → Addr) (σ : L2.St) (H : Hp) : Prop where
  hp : RelH K m h H
  nm : RelN K m h.length H env σ
theorem At.ex {env : En} {h h' : EH} {σ : L2.St} (a : At K env h m σ H) (E : Ex K m h.length H m' h'.length H') (R : RelH K m' h' H') : At K env h' m' σ H' := ⟨R, a.nm.ex E⟩
def up (K : PySem.W.Frag) (t : LT) : TE := fun σ H Q => ∃ m env h P, At K env h m σ H ∧ t env h P ∧ Kon K m h.length H P Q
structure LE (X : Cx) (e : Expr) (t : LT) : Prop where
  pe : PE X e (up X.K t)
abbrev LTt := En → EH → (Bool → EH → Prop) → Prop
def upT (K : PySem.W.Frag) (t : LTt) : TT := fun σ H Q => ∃ m env h P, At K env h m σ H ∧ t env h P ∧
  ∀ b h', P b h' → ∀ (m' : Nat → Addr) (H' : Hp), Ex K m h.length H m' h'.length H' → RelH K m' h' H' → Q b H'
structure LTe (X : Cx) (e : Expr) (t : LTt) : Prop where
  pt : PT X e (upT X.K t)
structure LWe (X : Cx) (e : Expr) (t : LTt) : Prop where
  pw : PW X e (upT X.K t)
abbrev LA := En → EH → (List EV → EH → Prop) → Prop
def KonA (K : PySem.W.Frag) (m : Nat → Addr) (n : Nat) (H : Hp) (P : List EV → EH → Prop) (Q : List V → Hp → Prop) : Prop :=
  ∀ vs h', P vs h' → ∀ (m' : Nat → Addr) (H' : Hp) (xs : List V), Ex K m n H m' h'.length H' → RelH K m' h' H' → RelEs K m' h'.length H' vs xs → Q xs H'
def upA (K : PySem.W.Frag) (t : LA) : TA := fun σ H Q => ∃ m env h P, At K env h m σ H ∧ t env h P ∧ KonA K m h.length H P Q
structure LAs (X : Cx) (es : List Expr) (t : LA) : Prop where
  pa : PA X es (upA X.K t)
structure LEnds where
  nx : En → EH → Prop
  rt : EK
  bk : En → EH → Prop := fun _ _ => False
  ct : En → EH → Prop := fun _ _ => False
abbrev LS := LEnds → En → EH → Prop
def KonS (K : PySem.W.Frag) (m : Nat → Addr) (n : Nat) (H : Hp) (P : En → EH → Prop) (Q : L2.St → Hp → Prop) : Prop :=
  ∀ env' h', P env' h' → ∀ (m' : Nat → Addr) (H' : Hp) (σ' : L2.St), Ex K m n H m' h'.length H' → At K env' h' m' σ' H' → Q σ' H'
theorem KonS.ex {P : En → EH → Prop} {Q : L2.St → Hp → Prop} (E : Ex K m n H m' n' H') (k : KonS K m n H P Q) : KonS K m' n' H' P Q := fun v h' p m2 H2 x E2 R => k v h' p m2 H2 x (E.trans E2) R
structure KonE (K : PySem.W.Frag) (m : Nat → Addr) (n : Nat) (H : Hp) (P : LEnds) (Q : Ends) : Prop where
  nx : KonS K m n H P.nx Q.nx
  rt : Kon K m n H P.rt Q.rt
  bk : KonS K m n H P.bk Q.bk
  ct : KonS K m n H P.ct Q.ct
theorem KonE.ex {P : LEnds} {Q : Ends} (E : Ex K m n H m' n' H') (k : KonE K m n H P Q) : KonE K m' n' H' P Q := ⟨k.nx.ex E, k.rt.ex E, k.bk.ex E, k.ct.ex E⟩
def upS (K : PySem.W.Frag) (t : LS) : TS := fun D σ H => ∃ m env h P, At K env h m σ H ∧ t P env h ∧ KonE K m h.length H P D
structure LSt (X : Cx) (st : Stmt) (t : LS) : Prop where
  ps : PS X st (upS X.K t)
structure LSs (X : Cx) (st : List Stmt) (t : LS) : Prop where
  pss : PSs X st (upS X.K t)
theorem PE.imp {X : Cx} {e : Expr} {t t' : TE} (h : PE X e t) (i : ∀ σ H Q, t' σ H Q → t σ H Q) : PE X e t' := ⟨fun pins s σ H Q I q => h.run pins s σ H Q I (i σ H Q q)⟩
theorem PT.imp {X : Cx} {e : Expr} {t t' : TT} (h : PT X e t) (i : ∀ σ H Q, t' σ H Q → t σ H Q) : PT X e t' := ⟨fun pins s σ H Q I q => h.run pins s σ H Q I (i σ H Q q)⟩
theorem PW.imp {X : Cx} {e : Expr} {t t' : TT} (h : PW X e t) (i : ∀ σ H Q, t' σ H Q → t σ H Q) : PW X e t' := ⟨fun wh pins s σ H Q I q => h.run wh pins s σ H Q I (i σ H Q q)⟩
theorem PA.imp {X : Cx} {e : List Expr} {t t' : TA} (h : PA X e t) (i : ∀ σ H Q, t' σ H Q → t σ H Q) : PA X e t' := ⟨fun p pins s σ H Q I q => h.run p pins s σ H Q I (i σ H Q q)⟩
theorem PS.imp {X : Cx} {e : Stmt} {t t' : TS} (h : PS X e t) (i : ∀ D σ H, t' D σ H → t D σ H) : PS X e t' := ⟨fun pins s σ H D I q => h.run pins s σ H D I (i D σ H q)⟩
theorem PSs.imp {X : Cx} {e : List Stmt} {t t' : TS} (h : PSs X e t) (i : ∀ D σ H, t' D σ H → t D σ H) : PSs X e t' := ⟨fun pins s σ H D I q => h.run pins s σ H D I (i D σ H q)⟩
theorem PI.imp {X : Cx} {tg e : Expr} {t t' : TI} (h : PI X tg e t) (i : ∀ σ H Q, t' σ H Q → t σ H Q) : PI X tg e t' := ⟨fun pins s σ H Q I q => h.run pins s σ H Q I (i σ H Q q)⟩

def lVar (i : Nat) : LT := fun env h P => match env[i]? with
  | some (some v) => P v h
  | _ => False
def lC (v : EV) : LT := fun _ h P => P v h
section
variable {X : Cx}
theorem le_var (i : Nat) {x : Str} {pos : Pos} (hN : X.N[i]? = some x := by rfl) (hv : Vis X.env.scope x := by first | exact Or.inl rfl | exact Or.inr (Or.inl rfl) | exact Or.inr (Or.inr rfl))
    (hd : (x == ("__debug__" : Str)) = false := by decide) (hcd : (x == ("__classdict__" : Str)) = false := by decide) : LE X (.Name x pos) (lVar i) :=
  ⟨PE.imp (pe_var hN hv hd hcd) fun σ H Q ⟨m, env, h, P, a, t, k⟩ => by
    unfold lVar at t
    split at t
    · rename_i v e
      obtain ⟨x, ex, rx⟩ := a.nm.2 i v e
      exact ⟨x, ex, k v h t m H x .refl a.hp rx⟩
    · exact t.elim⟩
theorem le_c {e : Expr} {v : V} (x : EV) (h : PE X e (tC v)) (r : ∀ m n H, RelE X.K m n H x v) : LE X e (lC x) :=
  ⟨PE.imp h fun σ H Q ⟨m, env, h, P, a, t, k⟩ => k x h t m H v .refl a.hp (r _ _ _)⟩
theorem le_int {i j pos} : LE X (.Constant (.int i) j pos) (lC (.int i)) := le_c _ pe_int fun _ _ _ => by rw [RelE]
theorem le_bl {i j pos} : LE X (.Constant (.bool i) j pos) (lC (.bl i)) := le_c _ pe_bl fun _ _ _ => by rw [RelE]
theorem le_non {j pos} : LE X (.Constant .none j pos) (lC .non) := le_c _ pe_non fun _ _ _ => by rw [RelE]
theorem le_str (l : List Nat) {x j pos} (h : x = S l := by decide +kernel) : LE X (.Constant (.str x) j pos) (lC (.str l)) := le_c _ pe_str fun _ _ _ => by rw [RelE, h]
theorem le_gint (i : Int) {x : Str} {pos : Pos} (hg : Gl X x) (hm : ∃ t, X.mg x = some (.int i t)) (hd : (x == ("__debug__" : Str)) = false := by decide) : LE X (.Name x pos) (lC (.int i)) := by
  obtain ⟨t, e⟩ := hm
  exact le_c _ (pe_glob (v := .int i) hg e ⟨t, rfl⟩ hd) fun _ _ _ => by rw [RelE]
theorem le_gstr (l : List Nat) {x : Str} {pos : Pos} (hg : Gl X x) (hm : ∃ t, X.mg x = some (.str (S l) t)) (hd : (x == ("__debug__" : Str)) = false := by decide) : LE X (.Name x pos) (lC (.str l)) := by
  obtain ⟨t, e⟩ := hm
  exact le_c _ (pe_glob (v := .str (S l)) hg e ⟨t, rfl⟩ hd) fun _ _ _ => by rw [RelE]
theorem le_gref (a : Addr) {x : Str} {pos : Pos} (hg : Gl X x) (hm : X.mg x = some (.ref a)) (hd : (x == ("__debug__" : Str)) = false := by decide) : LE X (.Name x pos) (lC (.adr a)) :=
  le_c _ (pe_glob (v := .ref a) hg hm rfl hd) fun _ _ _ => by rw [RelE]
end
end
end Y

namespace Y
open PySem PySem.Spec PyProof.Rows L2

mutual
inductive Dat (h : EH) : Nat → EV → PyData → Prop
  | non {n : Nat} : Dat h n .non .none
  | bl {n : Nat} (b : Bool) : Dat h n (.bl b) (.bool b)
  | int {n : Nat} (i : Int) : Dat h n (.int i) (.int i)
  | str {n : Nat} (s : List Nat) : Dat h n (.str s) (.str (S s))
  | tup {n : Nat} {xs : List EV} {ds : List PyData} : Dats h n xs ds → Dat h (n + 1) (.tup xs) (.tuple ds)
  | ktup {n : Nat} {xs : List EV} {ds : List PyData} : Dats h n xs ds → Dat h (n + 1) (.ktup xs) (.tuple ds)
  | lst {n : Nat} {r : Nat} {xs : List EV} {ds : List PyData} : h[r]? = some (.lst xs) → Dats h n xs ds → Dat h (n + 1) (.ref r) (.list ds)
inductive Dats (h : EH) : Nat → List EV → List PyData → Prop
  | nil {n : Nat} : Dats h n [] []
  | cons {n : Nat} {x : EV} {xs : List EV} {d : PyData} {ds : List PyData} : Dat h n x d → Dats h n xs ds → Dats h n (x :: xs) (d :: ds)
end
section
variable {K : PySem.W.Frag} {m : Nat → Addr} {H : Hp} {h : EH}
mutual
theorem Dat.dp (R : RelH K m h H) : ∀ (d : PyData) (n : Nat) (v : EV) (x : V), Dat h n v d → RelE K m h.length H v x → Dp K H x d
  | .none, _, _, _, a, r => by cases a; rw [RelE] at r; subst r; exact .non
  | .bool b, _, _, _, a, r => by cases a; rw [RelE] at r; subst r; exact .bl b
  | .int b, _, _, _, a, r => by cases a; rw [RelE] at r; subst r; exact .int b
  | .str b, _, _, _, a, r => by cases a; rw [RelE] at r; subst r; exact .str _
  | .tuple ds, _, _, _, a, r => by
    cases a with
    | tup as =>
      rw [RelE] at r
      obtain ⟨p, vs, e, q, t⟩ := r
      subst e
      exact .tup (SqT.of q) (Dats.dp R ds _ _ _ as t)
    | ktup as =>
      rw [RelE] at r
      obtain ⟨p, vs, e, q, t⟩ := r
      subst e
      exact .tup q (Dats.dp R ds _ _ _ as t)
  | .list ds, _, _, _, a, r => by
    cases a with
    | lst hr as =>
      rw [RelE] at r
      obtain ⟨hl, e⟩ := r
      subst e
      obtain ⟨vs, hv, t⟩ := R.obj _ _ hr
      exact .lst (SqL.of hv) (Dats.dp R ds _ _ _ as t)
  | .dict _, _, _, _, a, _ => by cases a
theorem Dats.dp (R : RelH K m h H) : ∀ (ds : List PyData) (n : Nat) (vs : List EV) (xs : List V), Dats h n vs ds → RelEs K m h.length H vs xs → DpAll K H xs ds
  | [], _, _, _, a, r => by cases a; rw [RelEs] at r; subst r; exact .nil
  | d :: ds, _, _, _, a, r => by
    cases a with
    | cons a1 a2 =>
      rw [RelEs] at r
      obtain ⟨v, l, e, r1, r2⟩ := r
      subst e
      exact .cons (Dat.dp R d _ _ _ a1 r1) (Dats.dp R ds _ _ _ a2 r2)
end
mutual
theorem Dat.dep : ∀ (d : PyData) (n : Nat) (v : EV), Dat h n v d → d.depth ≤ n ∧ d.plain = true
  | .none, _, _, a => by simp [PyData.depth, PyData.plain]
  | .bool b, _, _, a => by simp [PyData.depth, PyData.plain]
  | .int b, _, _, a => by simp [PyData.depth, PyData.plain]
  | .str b, _, _, a => by simp [PyData.depth, PyData.plain]
  | .tuple ds, _, _, a => by
    cases a with
    | tup as =>
      have := Dats.dep ds _ _ as
      simp only [PyData.depth, PyData.plain]
      exact ⟨by omega, this.2⟩
    | ktup as =>
      have := Dats.dep ds _ _ as
      simp only [PyData.depth, PyData.plain]
      exact ⟨by omega, this.2⟩
  | .list ds, _, _, a => by
    cases a with
    | lst hr as =>
      have := Dats.dep ds _ _ as
      simp only [PyData.depth, PyData.plain]
      exact ⟨by omega, this.2⟩
  | .dict _, _, _, a => by cases a
theorem Dats.dep : ∀ (ds : List PyData) (n : Nat) (vs : List EV), Dats h n vs ds → PyData.depthAll ds ≤ n ∧ PyData.plainAll ds = true
  | [], _, _, a => by simp [PyData.depthAll, PyData.plainAll]
  | d :: ds, _, _, a => by
    cases a with
    | cons a1 a2 =>
      have h1 := Dat.dep d _ _ a1
      have h2 := Dats.dep ds _ _ a2
      simp only [PyData.depthAll, PyData.plainAll, h1.2, h2.2]
      exact ⟨by omega, rfl⟩
end
end

abbrev LO := EV → EV → EH → EK → Prop
def LOp (K : PySem.W.Frag) (r : R2) (o : LO) : Prop :=
  ∀ (m : Nat → Addr) (h : EH) (H : Hp) (v w : EV) (x y : V) (P : EK) (Q : VK), RelH K m h H → RelE K m h.length H v x → RelE K m h.length H w y → o v w h P → Kon K m h.length H P Q → r x y H Q
def LOpR (X : Cx) (f : Value → Value → Sem Value) (o : LO) : Prop := ∃ r, OpR X f r ∧ LOp X.K r o
def lOp (o : LO) (ta tb : LT) : LT := fun env h P => ta env h fun x h1 => tb env h1 fun y h2 => o x y h2 P
def lB (t : LT) : LTt := fun env h P => t env h fun v h1 => match v with
  | .bl b => P b h1
  | _ => False
theorem Kon.same {K : PySem.W.Frag} {m : Nat → Addr} {H : Hp} {h : EH} {P : EK} {Q : VK} (k : Kon K m h.length H P Q) (R : RelH K m h H) {v : EV} {x : V} (p : P v h) (r : RelE K m h.length H v x) : Q x H := k v h p m H x .refl R r
theorem Kon.tup {K : PySem.W.Frag} {m : Nat → Addr} {H : Hp} {h : EH} {P : EK} {Q : VK} (k : Kon K m h.length H P Q) (R : RelH K m h H) {vs : List EV} {xs : List V} (p : P (.tup vs) h) (r : RelEs K m h.length H vs xs) {a : Addr} (ha : H a = none) : Q (.ref a) (upd H a (.tup xs)) :=
  k _ h p m _ _ (Ex.tup1 ha) (R.tup ha) (by rw [RelE]; exact ⟨a, xs, rfl, upd_same, RelEs.ex (Ex.tup1 ha) _ _ r⟩)
theorem Kon.lst {K : PySem.W.Frag} {m : Nat → Addr} {H : Hp} {h : EH} {P : EK} {Q : VK} (k : Kon K m h.length H P Q) (R : RelH K m h H) {vs : List EV} {xs : List V} (p : P (.ref h.length) (h ++ [.lst vs])) (r : RelEs K m h.length H vs xs) {a : Addr} (ha : H a = none) : Q (.ref a) (upd H a (.lst xs)) := by
  have E : Ex K m h.length H (mput m h.length a) (h ++ [EO.lst vs]).length (upd H a (.lst xs)) := Ex.new ha
  refine k _ _ p _ _ _ E (R.new ha ⟨xs, upd_same, RelEs.ex E _ _ r⟩) ?_
  rw [RelE]
  exact ⟨by simp, by rw [mput_at]⟩
section
variable {X : Cx} {a b : Expr} {ta tb : LT} {pos : Pos} {o : LO}
theorem up_bin {K : PySem.W.Frag} {r : R2} (s : LOp K r o) (σ : L2.St) (H : Hp) (Q : VK) (q : up K (lOp o ta tb) σ H Q) : tOp r (up K ta) (up K tb) σ H Q := by
  obtain ⟨m, env, h, P, at_, t, k⟩ := q
  refine ⟨m, env, h, _, at_, t, fun x h1 p1 m1 H1 u E1 R1 r1 => ⟨m1, env, h1, _, at_.ex E1 R1, p1, fun y h2 p2 m2 H2 w E2 R2 r2 => ?_⟩⟩
  exact s _ _ _ _ _ _ _ P Q R2 (RelE.ex E2 _ _ r1) r2 p2 (k.ex (E1.trans E2))
theorem le_op {op : Operator} (ho : LOpR X (binaryOp op) o) (ha : LE X a ta) (hb : LE X b tb) : LE X (.BinOp a op b pos) (lOp o ta tb) := by
  obtain ⟨r, hr, s⟩ := ho
  exact ⟨PE.imp (pe_op hr ha.pe hb.pe) (up_bin s)⟩
theorem le_cmp {op : CmpOp} (ho : LOpR X (compareOp op) o) (ha : LE X a ta) (hb : LE X b tb) (hm : behindInMarks op b = false := by first | exact nomark _ | with_unfolding_all rfl) : LE X (.Compare a [op] [b] pos) (lOp o ta tb) := by
  obtain ⟨r, hr, s⟩ := ho
  exact ⟨PE.imp (pe_cmpR hr ha.pe hb.pe hm) (up_bin s)⟩
theorem up_test {K : PySem.W.Frag} {t : LT} {tt : TE} (i : ∀ σ H Q, up K t σ H Q → tt σ H Q) (σ : L2.St) (H : Hp) (Q : Bool → Hp → Prop) (q : upT K (lB t) σ H Q) : tTest tt σ H Q := by
  obtain ⟨m, env, h, P, at_, t1, k⟩ := q
  refine i σ H _ ⟨m, env, h, _, at_, t1, fun v h1 p1 m1 H1 x E1 R1 r1 => ?_⟩
  cases v with
  | bl b =>
    rw [RelE] at r1
    exact ⟨b, r1, k b h1 p1 m1 H1 E1 R1⟩
  | _ => exact p1.elim
theorem lt_cmp {op : CmpOp} (ho : LOpR X (compareOp op) o) (ha : LE X a ta) (hb : LE X b tb) (hm : behindInMarks op b = false := by first | exact nomark _ | with_unfolding_all rfl) : LTe X (.Compare a [op] [b] pos) (lB (lOp o ta tb)) := by
  obtain ⟨r, hr, s⟩ := ho
  exact ⟨PT.imp (pt_cmpR hr ha.pe hb.pe hm) (up_test (up_bin s))⟩
def lChain (o o' : LO) (ta tb tc : LT) : LT := fun env h P => ta env h fun x h1 => tb env h1 fun y h2 => o x y h2 fun z h3 => match z with
  | .bl k => if k = true then tc env h3 fun w h4 => o' y w h4 P else P (.bl false) h3
  | _ => False
theorem up_chain {K : PySem.W.Frag} {r r' : R2} {o o' : LO} {tc : LT} (s : LOp K r o) (s' : LOp K r' o') (σ : L2.St) (H : Hp) (Q : VK) (q : up K (lChain o o' ta tb tc) σ H Q) : tChain r r' (up K ta) (up K tb) (up K tc) σ H Q := by
  obtain ⟨m, env, h, P, at_, t, k⟩ := q
  refine ⟨m, env, h, _, at_, t, fun x h1 p1 m1 H1 u E1 R1 r1 => ⟨m1, env, h1, _, at_.ex E1 R1, p1, fun y h2 p2 m2 H2 w E2 R2 r2 => ?_⟩⟩
  refine s _ _ _ _ _ _ _ _ _ R2 (RelE.ex E2 _ _ r1) r2 p2 fun z h3 p3 m3 H3 zz E3 R3 r3 => ?_
  cases z with
  | bl c =>
    rw [RelE] at r3
    refine ⟨c, r3, ?_⟩
    cases c with
    | false => exact k _ _ p3 m3 H3 _ ((E1.trans E2).trans E3) R3 (by rw [RelE])
    | true => exact ⟨m3, env, h3, _, (at_.ex (E1.trans E2) R2).ex E3 R3, p3, fun w' h4 p4 m4 H4 ww E4 R4 r4 => s' _ _ _ _ _ _ _ P Q R4 (RelE.ex (E3.trans E4) _ _ r2) r4 p4 (k.ex (((E1.trans E2).trans E3).trans E4))⟩
  | _ => exact p3.elim
theorem le_chain {c : Expr} {tc : LT} {op op' : CmpOp} {o o' : LO} (ho : LOpR X (compareOp op) o) (ho' : LOpR X (compareOp op') o') (ha : LE X a ta) (hb : LE X b tb) (hc : LE X c tc)
    (hm : lastMarks [op, op'] [b, c] = false := by with_unfolding_all rfl) : LE X (.Compare a [op, op'] [b, c] pos) (lChain o o' ta tb tc) := by
  obtain ⟨r, hr, s⟩ := ho
  obtain ⟨r', hr', s'⟩ := ho'
  exact ⟨PE.imp (pe_chain hr hr' ha.pe hb.pe hc.pe hm) (up_chain s s')⟩
theorem lt_chain {c : Expr} {tc : LT} {op op' : CmpOp} {o o' : LO} (ho : LOpR X (compareOp op) o) (ho' : LOpR X (compareOp op') o') (ha : LE X a ta) (hb : LE X b tb) (hc : LE X c tc)
    (hm : lastMarks [op, op'] [b, c] = false := by with_unfolding_all rfl) : LTe X (.Compare a [op, op'] [b, c] pos) (lB (lChain o o' ta tb tc)) := by
  obtain ⟨r, hr, s⟩ := ho
  obtain ⟨r', hr', s'⟩ := ho'
  exact ⟨PT.imp (pt_chain hr hr' ha.pe hb.pe hc.pe hm) (up_test (up_chain s s'))⟩
end

def addE : LO := fun v w h P => match v, w with
  | .int i, .int j => P (.int (i + j)) h
  | .int i, .bl b => P (.int (i + b2i b)) h
  | .str a, .str b => a.length + b.length ≤ sizeLine ∧ P (.str (a ++ b)) h
  | .tup a, .tup b => a.length + b.length ≤ sizeLine ∧ P (.tup (a ++ b)) h
  | .ref l, .ref r => match h[l]?, h[r]? with
    | some (.lst a), some (.lst b) => a.length + b.length ≤ sizeLine ∧ P (.ref h.length) (h ++ [.lst (a ++ b)])
    | _, _ => False
  | _, _ => False
theorem S_len (a : List Nat) : (S a).length = a.length := by
  show (S a).cps.size = _
  simp
theorem S_app (a b : List Nat) : S a ++ S b = S (a ++ b) := by
  show (⟨(a.toArray ++ b.toArray)⟩ : Str) = _
  simp
theorem lo_add {X : Cx} : LOpR X (binaryOp .Add) addE := by
  refine ⟨_, OpR.or op_add (OpR.or op_add_ib (OpR.or op_add_str (OpR.or op_catA op_cat))), ?_⟩
  intro m h H v w x y P Q R rx ry q k
  unfold addE at q
  split at q
  · rw [RelE] at rx ry
    exact .inl ⟨_, _, rx, ry, k.same R q (by rw [RelE])⟩
  · rw [RelE] at rx
    rw [RelE] at ry
    exact .inr (.inl ⟨_, _, rx, ry, k.same R q (by rw [RelE])⟩)
  · rw [RelE] at rx ry
    exact .inr (.inr (.inl ⟨_, _, rx, ry, by rw [S_len, S_len]; exact q.1, by rw [S_app]; exact k.same R q.2 (by rw [RelE])⟩))
  · rename_i a b
    rw [RelE] at rx ry
    obtain ⟨p, xs, rfl, hx, r1⟩ := rx
    obtain ⟨p', ys, rfl, hy, r2⟩ := ry
    refine .inr (.inr (.inr (.inl ⟨p, p', xs, ys, rfl, rfl, SqT.of hx, SqT.of hy, by rw [← r1.length, ← r2.length]; exact q.1, fun e => ?_, fun _ e => ?_, fun _ _ z hz => ?_⟩)))
    · subst e
      have : a = [] := by cases a with
        | nil => rfl
        | cons _ _ => have := r1.length; simp at this
      subst this
      exact k.same R q.2 (by rw [RelE]; exact ⟨p', ys, rfl, hy, r2⟩)
    · subst e
      have : b = [] := by cases b with
        | nil => rfl
        | cons _ _ => have := r2.length; simp at this
      subst this
      refine k.same R q.2 ?_
      rw [List.append_nil, RelE]
      exact ⟨p, xs, rfl, hx, r1⟩
    · exact k.tup R q.2 (r1.app r2) hz
  · rw [RelE] at rx ry
    obtain ⟨_, rfl⟩ := rx
    obtain ⟨_, rfl⟩ := ry
    split at q
    · rename_i e1 e2
      obtain ⟨xs, a1, r1⟩ := R.obj _ _ e1
      obtain ⟨ys, a2, r2⟩ := R.obj _ _ e2
      refine .inr (.inr (.inr (.inr ⟨_, _, xs, ys, rfl, rfl, a1, a2, by rw [← r1.length, ← r2.length]; exact q.1, fun z hz => ?_⟩)))
      exact k.lst R q.2 (r1.app r2) hz
    · exact q.elim
  · exact q.elim
def intE (C : Int → Int → Prop) (f : Int → Int → Int) : LO := fun v w h P => match v, w with
  | .int i, .int j => C i j ∧ P (.int (f i j)) h
  | _, _ => False
def intP (f : Int → Int → EV) : LO := fun v w h P => match v, w with
  | .int i, .int j => P (f i j) h
  | _, _ => False
theorem lo_int {X : Cx} {op : Operator} {C : Int → Int → Prop} {f : Int → Int → Int} (hr : OpR X (binaryOp op) (rI C fun i j => .int (f i j))) : LOpR X (binaryOp op) (intE C f) := by
  refine ⟨_, hr, ?_⟩
  intro m h H v w x y P Q R rx ry q k
  unfold intE at q
  split at q
  · rw [RelE] at rx ry
    exact ⟨_, _, rx, ry, q.1, k.same R q.2 (by rw [RelE])⟩
  · exact q.elim
theorem lo_intP {X : Cx} {fn : Value → Value → Sem Value} {f : Int → Int → EV} {g : Int → Int → V} (hr : OpR X fn (rI0 g)) (e : ∀ K m n H i j, RelE K m n H (f i j) (g i j)) : LOpR X fn (intP f) := by
  refine ⟨_, hr, ?_⟩
  intro m h H v w x y P Q R rx ry q k
  unfold intP at q
  split at q
  · rw [RelE] at rx ry
    exact ⟨_, _, rx, ry, k.same R q (e _ _ _ _ _ _)⟩
  · exact q.elim
abbrev subE : LO := intP fun i j => .int (i - j)
abbrev fdivE : LO := intE CDivW fun i j => i / j
abbrev modE : LO := intE (fun _ j => 0 < j) fun i j => i % j
abbrev powE : LO := intE CPow fun i j => i ^ j.toNat
theorem lo_sub {X : Cx} : LOpR X (binaryOp .Sub) subE := lo_intP op_sub fun _ _ _ _ _ _ => by rw [RelE]
theorem lo_fdiv {X : Cx} : LOpR X (binaryOp .FloorDiv) fdivE := lo_int op_fdivW
theorem lo_mod {X : Cx} : LOpR X (binaryOp .Mod) modE := lo_int op_mod
theorem lo_pow {X : Cx} : LOpR X (binaryOp .Pow) powE := lo_int op_pow
abbrev ltE : LO := intP fun i j => .bl (decide (i < j))
abbrev leE : LO := intP fun i j => .bl (decide (i ≤ j))
abbrev gtE : LO := intP fun i j => .bl (decide (j < i))
abbrev geE : LO := intP fun i j => .bl (decide (j ≤ i))
theorem lo_lt {X : Cx} : LOpR X (compareOp .Lt) ltE := lo_intP op_lt fun _ _ _ _ _ _ => by rw [RelE]
theorem lo_le {X : Cx} : LOpR X (compareOp .LtE) leE := lo_intP op_le fun _ _ _ _ _ _ => by rw [RelE]
theorem lo_gt {X : Cx} : LOpR X (compareOp .Gt) gtE := lo_intP op_gt fun _ _ _ _ _ _ => by rw [RelE]
theorem lo_ge {X : Cx} : LOpR X (compareOp .GtE) geE := lo_intP op_ge fun _ _ _ _ _ _ => by rw [RelE]
def eqE (neg : Bool) : LO := fun v w h P => match v, w with
  | .int i, .int j => P (.bl (neg ^^ decide (i = j))) h
  | .str a, .str b => P (.bl (neg ^^ decide (a = b))) h
  | .bl a, .bl b => P (.bl (neg ^^ decide (a = b))) h
  | v, w => ∃ d e, Dat h 60 v d ∧ Dat h 60 w e ∧ P (.bl (neg ^^ PyData.eqv d e)) h
theorem S_inj {a b : List Nat} : S a = S b ↔ a = b := by
  constructor
  · intro e
    have : a.toArray = b.toArray := congrArg Str.cps e
    simpa using this
  · rintro rfl; rfl
theorem beqD {α : Type} [BEq α] [LawfulBEq α] [DecidableEq α] (a b : α) : (a == b) = decide (a = b) := by
  rw [Bool.eq_iff_iff, beq_iff_eq, decide_eq_true_eq]
theorem eq_sim {K : PySem.W.Frag} {m : Nat → Addr} {h : EH} {H : Hp} {v w : EV} {x y : V} {P : EK} {Q : VK} {neg : Bool} (R : RelH K m h H) (rx : RelE K m h.length H v x) (ry : RelE K m h.length H w y) (q : eqE neg v w h P) (k : Kon K m h.length H P Q) :
    ∃ d e, Dp K H x d ∧ Dp K H y e ∧ d.depth ≤ 60 ∧ d.plain = true ∧ e.plain = true ∧ Q (.bl (neg ^^ PyData.eqv d e)) H := by
  unfold eqE at q
  split at q
  · rename_i i j
    rw [RelE] at rx ry; subst rx ry
    refine ⟨_, _, .int i, .int j, by simp [PyData.depth], rfl, rfl, ?_⟩
    rw [show PyData.eqv (.int i) (.int j) = decide (i = j) by simp only [PyData.eqv]; exact beqD i j]
    exact k.same R q (by rw [RelE])
  · rename_i i j
    rw [RelE] at rx ry; subst rx ry
    refine ⟨_, _, .str _, .str _, by simp [PyData.depth], rfl, rfl, ?_⟩
    rw [show PyData.eqv (.str (S i)) (.str (S j)) = decide (i = j) by simp only [PyData.eqv]; rw [beqD]; exact decide_eq_decide.mpr S_inj]
    exact k.same R q (by rw [RelE])
  · rename_i i j
    rw [RelE] at rx ry; subst rx ry
    refine ⟨_, _, .bl _, .bl _, by simp [PyData.depth], rfl, rfl, ?_⟩
    rw [show PyData.eqv (.bool i) (.bool j) = decide (i = j) by simp only [PyData.eqv]; exact beqD i j]
    exact k.same R q (by rw [RelE])
  · obtain ⟨d, e, d1, e1, p⟩ := q
    exact ⟨d, e, Dat.dp R _ _ _ _ d1 rx, Dat.dp R _ _ _ _ e1 ry, (Dat.dep _ _ _ d1).1, (Dat.dep _ _ _ d1).2, (Dat.dep _ _ _ e1).2, k.same R p (by rw [RelE])⟩
def rEqP (neg : Bool) (K : PySem.W.Frag) : R2 := fun x y H Q => ∃ d e, Dp K H x d ∧ Dp K H y e ∧ d.depth ≤ 60 ∧ d.plain = true ∧ e.plain = true ∧ Q (.bl (neg ^^ PyData.eqv d e)) H
theorem lo_eq {X : Cx} (hu : X.A.units + 64 < cLine) : LOpR X (compareOp .Eq) (eqE false) := by
  refine ⟨rEqP false X.K, ?_, fun m h H v w x y P Q R rx ry q k => eq_sim R rx ry q k⟩
  intro pins s σ H x y v u Q I rx ry h
  obtain ⟨d, e, hd, he, dd, pd, pe, q⟩ := h
  obtain ⟨as, r1⟩ := Dp.reads I d x v hd rx
  obtain ⟨bs, r2⟩ := Dp.reads I e y u he ry
  exact PySem.SeqAt.eq_plain r1 r2 pd pe (by omega) ⟨.bl _, H, I, rfl, by simpa using q⟩
theorem lo_ne {X : Cx} (hu : X.A.units + 64 < cLine) : LOpR X (compareOp .NotEq) (eqE true) := by
  refine ⟨rEqP true X.K, ?_, fun m h H v w x y P Q R rx ry q k => eq_sim R rx ry q k⟩
  intro pins s σ H x y v u Q I rx ry h
  obtain ⟨d, e, hd, he, dd, pd, pe, q⟩ := h
  obtain ⟨as, r1⟩ := Dp.reads I d x v hd rx
  obtain ⟨bs, r2⟩ := Dp.reads I e y u he ry
  exact PySem.SeqAt.ne_plain r1 r2 pd pe (by omega) ⟨.bl _, H, I, rfl, by simpa using q⟩
theorem op_isB {X : Cx} : OpR X (compareOp .Is) (fun x y H Q => ∃ a b, x = .bl a ∧ y = .bl b ∧ Q (.bl (decide (a = b))) H) := by
  intro pins s σ H x y v u Q I rx ry h
  obtain ⟨a, b, rfl, rfl, q⟩ := h
  cases (show v = Value.bool a from rx)
  cases (show u = Value.bool b from ry)
  refine is_bool (fin_bl I q ?_)
  cases a <;> cases b <;> rfl
def isN (neg : Bool) : LO := fun v w h P => match w with
  | .non => match v with
    | .non => P (.bl (!neg)) h
    | _ => P (.bl neg) h
  | .bl b => match v with
    | .bl a => P (.bl (neg ^^ decide (a = b))) h
    | _ => False
  | _ => False
theorem lo_isN {X : Cx} : LOpR X (compareOp .Is) (isN false) := by
  refine ⟨_, OpR.or op_isN op_isB, ?_⟩
  intro m h H v w x y P Q R rx ry q k
  unfold isN at q
  split at q
  · rw [RelE] at ry
    refine .inl ⟨ry, ?_⟩
    split at q
    · rw [RelE] at rx; subst rx
      exact k.same R q (by rw [RelE]; rfl)
    · have : x ≠ .non := by
        rintro rfl
        rename_i hv
        cases v <;> simp [RelE] at rx
        exact hv rfl
      rw [decide_eq_false this]
      exact k.same R q (by rw [RelE]; try rfl)
  · rename_i b
    rw [RelE] at ry
    split at q
    · rename_i a
      rw [RelE] at rx
      subst rx ry
      exact .inr ⟨a, b, rfl, rfl, k.same R q (by rw [RelE]; first | rfl | simp)⟩
    · exact q.elim
  · exact q.elim
end Y

namespace Y
open PySem PySem.Spec PyProof.Rows L2

def truE (v : EV) (h : EH) (P : Bool → Prop) : Prop := match v with
  | .bl b => P b
  | .non => P false
  | .int i => P (i != 0)
  | .str s => s.length ≤ sizeLine ∧ P (!s.isEmpty)
  | .tup xs => P (!xs.isEmpty)
  | .ref r => match h[r]? with
    | some (.lst xs) => P (!xs.isEmpty)
    | some (.dic xs) => P (!xs.isEmpty)
    | _ => False
  | _ => False
def lT (t : LT) : LTt := fun env h P => t env h fun v h1 => truE v h1 fun b => P b h1
def lAnd (t u : LTt) : LTt := fun env h P => t env h fun c h1 => if c = true then u env h1 P else P false h1
def lOr (t u : LTt) : LTt := fun env h P => t env h fun c h1 => if c = true then P true h1 else u env h1 P
def lNot (t : LTt) : LTt := fun env h P => t env h fun c h1 => P (!c) h1
def lIf (t : LTt) (ta tb : LT) : LT := fun env h P => t env h fun c h1 => if c = true then ta env h1 P else tb env h1 P
def lAndV (ta tb : LT) : LT := fun env h P => ta env h fun v h1 => match v with
  | .bl c => if c = true then tb env h1 P else P (.bl false) h1
  | _ => False
def lOrV (ta tb : LT) : LT := fun env h P => ta env h fun v h1 => match v with
  | .bl c => if c = true then P (.bl true) h1 else tb env h1 P
  | _ => False
def lNotV (ta : LT) : LT := fun env h P => ta env h fun v h1 => match v with
  | .bl c => P (.bl (!c)) h1
  | _ => False
section
variable {K : PySem.W.Frag} {m : Nat → Addr} {H : Hp} {h : EH}
theorem RelEs.isEmpty {n : Nat} {es : List EV} {vs : List V} (r : RelEs K m n H es vs) : vs.isEmpty = es.isEmpty := by
  cases es with
  | nil => rw [RelEs] at r; subst r; rfl
  | cons a l => rw [RelEs] at r; obtain ⟨v, t, rfl, _, _⟩ := r; rfl
theorem RelKV.isEmpty {n : Nat} {es : List (EV × EV)} {vs : List (L2.Key × V)} (r : RelKV K m n H es vs) : vs.isEmpty = es.isEmpty := by
  cases es with
  | nil => rw [RelKV] at r; subst r; rfl
  | cons a l => rw [RelKV] at r; obtain ⟨v, t, u, rfl, _, _⟩ := r; rfl
theorem tru_sim {v : EV} {x : V} {P : Bool → Prop} (R : RelH K m h H) (r : RelE K m h.length H v x) (q : truE v h P) : ∃ k, TruV K x H k ∧ P k := by
  unfold truE at q
  split at q
  · rw [RelE] at r; subst r; exact ⟨_, rfl, q⟩
  · rw [RelE] at r; subst r; exact ⟨_, rfl, q⟩
  · rw [RelE] at r; subst r; exact ⟨_, rfl, q⟩
  · rename_i s
    rw [RelE] at r; subst r
    refine ⟨_, ⟨by rw [S_len]; exact q.1, rfl⟩, ?_⟩
    rw [S_len]
    have e : (((s.length : Nat) : Int) != 0) = !s.isEmpty := by
      cases s <;> simp
      omega
    rw [e]; exact q.2
  · rw [RelE] at r
    obtain ⟨a, vs, rfl, hs, r⟩ := r
    exact ⟨_, .inr (.inl ⟨vs, SqT.of hs, rfl⟩), by rw [r.isEmpty]; exact q⟩
  · rw [RelE] at r
    obtain ⟨_, rfl⟩ := r
    split at q
    · rename_i e
      obtain ⟨vs, a, r⟩ := R.obj _ _ e
      exact ⟨_, .inl ⟨vs, SqL.of a, rfl⟩, by rw [r.isEmpty]; exact q⟩
    · rename_i e
      obtain ⟨vs, a, r⟩ := R.obj _ _ e
      exact ⟨_, .inr (.inr ⟨vs, a, rfl⟩), by rw [r.isEmpty]; exact q⟩
    · exact q.elim
  · exact q.elim
end
section
variable {X : Cx} {a b c e : Expr} {es : List Expr} {ta tb : LT} {t u : LTt} {pos : Pos} {rest : List Expr}
theorem lt_truth (ha : LE X a ta) (he : ∀ whole, isTrue a X.env whole = (do let v ← whole; standAt a.pos; holding [v] (truthy v)) := by intro _; rfl) : LTe X a (lT ta) := by
  refine ⟨PT.imp (pt_truth ha.pe he) fun σ H Q ⟨m, env, h, P, at_, t1, k⟩ => ⟨m, env, h, _, at_, t1, fun v h1 p1 m1 H1 x E1 R1 r1 => ?_⟩⟩
  obtain ⟨c, tc, pc⟩ := tru_sim R1 r1 p1
  exact ⟨c, tc, k c h1 pc m1 H1 E1 R1⟩
theorem LWe.lt (w : LWe X e t) : LTe X e t := ⟨w.pw.pt⟩
theorem lw_and1 (ha : LTe X a t) : LWe X (.BoolOp .And [a] pos) t := ⟨pw_and1 ha.pt⟩
theorem lw_or1 (ha : LTe X a t) : LWe X (.BoolOp .Or [a] pos) t := ⟨pw_or1 ha.pt⟩
theorem lw_and (ha : LTe X a t) (hb : LWe X (.BoolOp .And (b :: rest) pos) u) : LWe X (.BoolOp .And (a :: b :: rest) pos) (lAnd t u) := by
  refine ⟨PW.imp (pw_and ha.pt hb.pw) fun σ H Q ⟨m, env, h, P, at_, t1, k⟩ => ⟨m, env, h, _, at_, t1, fun c h1 p1 m1 H1 E1 R1 => ?_⟩⟩
  cases c with
  | true =>
    rw [if_pos rfl] at p1 ⊢
    exact ⟨m1, env, h1, P, at_.ex E1 R1, p1, fun c2 h2 p2 m2 H2 E2 R2 => k c2 h2 p2 m2 H2 (E1.trans E2) R2⟩
  | false =>
    rw [if_neg Bool.false_ne_true] at p1 ⊢
    exact k _ _ p1 m1 H1 E1 R1
theorem lw_or (ha : LTe X a t) (hb : LWe X (.BoolOp .Or (b :: rest) pos) u) : LWe X (.BoolOp .Or (a :: b :: rest) pos) (lOr t u) := by
  refine ⟨PW.imp (pw_or ha.pt hb.pw) fun σ H Q ⟨m, env, h, P, at_, t1, k⟩ => ⟨m, env, h, _, at_, t1, fun c h1 p1 m1 H1 E1 R1 => ?_⟩⟩
  cases c with
  | false =>
    rw [if_neg Bool.false_ne_true] at p1 ⊢
    exact ⟨m1, env, h1, P, at_.ex E1 R1, p1, fun c2 h2 p2 m2 H2 E2 R2 => k c2 h2 p2 m2 H2 (E1.trans E2) R2⟩
  | true =>
    rw [if_pos rfl] at p1 ⊢
    exact k _ _ p1 m1 H1 E1 R1
theorem lt_not (ha : LTe X a t) : LTe X (.UnaryOp .Not a pos) (lNot t) :=
  ⟨PT.imp (pt_not ha.pt) fun σ H Q ⟨m, env, h, P, at_, t1, k⟩ => ⟨m, env, h, _, at_, t1, fun c h1 p1 m1 H1 E1 R1 => k _ _ p1 m1 H1 E1 R1⟩⟩
theorem le_if (hc : LTe X c t) (ha : LE X a ta) (hb : LE X b tb) : LE X (.IfExp c a b pos) (lIf t ta tb) := by
  refine ⟨PE.imp (pe_ifExp hc.pt ha.pe hb.pe) fun σ H Q ⟨m, env, h, P, at_, t1, k⟩ => ⟨m, env, h, _, at_, t1, fun c h1 p1 m1 H1 E1 R1 => ?_⟩⟩
  cases c with
  | true =>
    rw [if_pos rfl] at p1 ⊢
    exact ⟨m1, env, h1, P, at_.ex E1 R1, p1, k.ex E1⟩
  | false =>
    rw [if_neg Bool.false_ne_true] at p1 ⊢
    exact ⟨m1, env, h1, P, at_.ex E1 R1, p1, k.ex E1⟩
theorem le_one {op} (ha : LE X a ta) : LE X (.BoolOp op [a] pos) ta := ⟨pe_one ha.pe⟩
theorem le_and (ha : LE X a ta) (hb : LE X (.BoolOp .And (b :: rest) pos) tb) : LE X (.BoolOp .And (a :: b :: rest) pos) (lAndV ta tb) := by
  refine ⟨PE.imp (pe_and ha.pe hb.pe) fun σ H Q ⟨m, env, h, P, at_, t1, k⟩ => ⟨m, env, h, _, at_, t1, fun v h1 p1 m1 H1 x E1 R1 r1 => ?_⟩⟩
  cases v with
  | bl c =>
    rw [RelE] at r1
    refine ⟨c, r1, ?_⟩
    cases c with
    | true =>
      exact ⟨m1, env, h1, P, at_.ex E1 R1, p1, k.ex E1⟩
    | false => exact k _ _ p1 m1 H1 _ E1 R1 (by rw [RelE])
  | _ => exact p1.elim
theorem le_not (ha : LE X a ta) : LE X (.UnaryOp .Not a pos) (lNotV ta) := by
  refine ⟨PE.imp (pe_not ha.pe) fun σ H Q ⟨m, env, h, P, at_, t1, k⟩ => ⟨m, env, h, _, at_, t1, fun v h1 p1 m1 H1 x E1 R1 r1 => ?_⟩⟩
  cases v with
  | bl c =>
    rw [RelE] at r1
    exact ⟨c, r1, k _ _ p1 m1 H1 _ E1 R1 (by rw [RelE])⟩
  | _ => exact p1.elim
end
def lNil : LA := fun _ h P => P [] h
def lCons (ta : LT) (tr : LA) : LA := fun env h P => ta env h fun x h1 => tr env h1 fun xs h2 => P (x :: xs) h2
def lTup (t : LA) : LT := fun env h P => t env h fun xs h1 => xs.length ≤ sizeLine ∧ P (.tup xs) h1
def lLst (t : LA) : LT := fun env h P => t env h fun xs h1 => xs.length ≤ sizeLine ∧ P (.ref h1.length) (h1 ++ [.lst xs])
section
variable {X : Cx} {a b c e : Expr} {es : List Expr} {ta tb : LT} {t : LA} {pos : Pos}
theorem la_nil : LAs X [] lNil := ⟨PA.imp pa_nil fun σ H Q ⟨m, env, h, P, at_, t1, k⟩ => k _ _ t1 m H [] .refl at_.hp .nil⟩
theorem la_cons (ha : LE X e ta) (hr : LAs X es t) (hs : starEach (e :: es) X.env = (false, eval e X.env) :: starEach es X.env := by rfl) : LAs X (e :: es) (lCons ta t) :=
  ⟨PA.imp (pa_cons ha.pe hr.pa hs) fun σ H Q ⟨m, env, h, P, at_, t1, k⟩ => ⟨m, env, h, _, at_, t1, fun x h1 p1 m1 H1 v E1 R1 r1 =>
    ⟨m1, env, h1, _, at_.ex E1 R1, p1, fun xs h2 p2 m2 H2 vs E2 R2 r2 => k _ _ p2 m2 H2 _ (E1.trans E2) R2 (.cons (RelE.ex E2 _ _ r1) r2)⟩⟩⟩
theorem le_tup {k1} (ht : LAs X es t) : LE X (.Tuple es k1 pos) (lTup t) :=
  ⟨PE.imp (pe_tup ht.pa) fun σ H Q ⟨m, env, h, P, at_, t1, k⟩ => ⟨m, env, h, _, at_, t1, fun xs h1 p1 m1 H1 vs E1 R1 r1 =>
    ⟨by rw [← r1.length]; exact p1.1, fun p hp => (k.ex E1).tup R1 p1.2 r1 hp⟩⟩⟩
theorem le_lst (ht : LAs X es t) : LE X (.List es pos) (lLst t) :=
  ⟨PE.imp (pe_lst ht.pa) fun σ H Q ⟨m, env, h, P, at_, t1, k⟩ => ⟨m, env, h, _, at_, t1, fun xs h1 p1 m1 H1 vs E1 R1 r1 =>
    ⟨by rw [← r1.length]; exact p1.1, fun p hp => (k.ex E1).lst R1 p1.2 r1 hp⟩⟩⟩
end
abbrev LC := List EV → EH → EK → Prop
def LCl (K : PySem.W.Frag) (r : List V → Hp → VK → Prop) (c : LC) : Prop :=
  ∀ (m : Nat → Addr) (h : EH) (H : Hp) (vs : List EV) (xs : List V) (P : EK) (Q : VK), RelH K m h H → RelEs K m h.length H vs xs → c vs h P → Kon K m h.length H P Q → r xs H Q
def LCallR (X : Cx) (f : Value) (c : LC) : Prop := ∃ r, CallR X f r ∧ LCl X.K r c
def lCB (c : LC) (t : LA) : LT := fun env h P => t env h fun vs h1 => c vs h1 P
theorem CallR.or {X : Cx} {f : Value} {r r' : List V → Hp → VK → Prop} (a : CallR X f r) (b : CallR X f r') : CallR X f (fun xs H Q => r xs H Q ∨ r' xs H Q) := by
  intro pins s σ H xs us Q I rv q
  rcases q with q | q
  · exact a pins s σ H xs us Q I rv q
  · exact b pins s σ H xs us Q I rv q
theorem RelEs.one_inv {K : PySem.W.Frag} {m : Nat → Addr} {n : Nat} {H : Hp} {x : EV} {vs : List V} (r : RelEs K m n H [x] vs) : ∃ v, vs = [v] ∧ RelE K m n H x v := by
  rw [RelEs] at r
  obtain ⟨v, l, rfl, a, b⟩ := r
  rw [RelEs] at b
  subst b
  exact ⟨v, rfl, a⟩
theorem RelEs.two_inv {K : PySem.W.Frag} {m : Nat → Addr} {n : Nat} {H : Hp} {x y : EV} {vs : List V} (r : RelEs K m n H [x, y] vs) : ∃ v w, vs = [v, w] ∧ RelE K m n H x v ∧ RelE K m n H y w := by
  rw [RelEs] at r
  obtain ⟨v, l, rfl, a, b⟩ := r
  obtain ⟨w, rfl, c⟩ := b.one_inv
  exact ⟨v, w, rfl, a, c⟩
section
variable {X : Cx} {e : Expr} {es : List Expr} {c : LC} {t : LA} {pos p : Pos} {x : Str} {id T : String}
theorem up_cb {K : PySem.W.Frag} {r : List V → Hp → VK → Prop} (s : LCl K r c) (σ : L2.St) (H : Hp) (Q : VK) (q : up K (lCB c t) σ H Q) : tCB r (upA K t) σ H Q := by
  obtain ⟨m, env, h, P, at_, t1, k⟩ := q
  exact ⟨m, env, h, _, at_, t1, fun vs h1 p1 m1 H1 xs E1 R1 r1 => s _ _ _ _ _ _ _ R1 r1 p1 (k.ex E1)⟩
theorem le_callB (hc : LCallR X (.builtin id) c) (hg : Gl X x) (hm : X.mg x = none) (hv : bootBuiltins x = some (.builtin id)) (ha : LAs X (e :: es) t) (hn : x ≠ "__name__" := by decide) (hdb : (x == ("__debug__" : Str)) = false := by decide)
    (he : starEach (e :: es) X.env = (false, eval e X.env) :: starEach es X.env := by rfl) (hpl : (backTo pos (starEach es X.env)).any (·.1) = false := by rfl) : LE X (.Call (.Name x p) (e :: es) [] pos) (lCB c t) := by
  obtain ⟨r, hr, s⟩ := hc
  exact ⟨PE.imp (pe_callB hr hg hm hv ha.pa hn hdb he hpl) (up_cb s)⟩
theorem le_callTy (hc : LCallR X (.type T) c) (hg : Gl X x) (hm : X.mg x = none) (hv : bootBuiltins x = some (.type T)) (ha : LAs X (e :: es) t) (hn : x ≠ "__name__" := by decide) (hdb : (x == ("__debug__" : Str)) = false := by decide)
    (he : starEach (e :: es) X.env = (false, eval e X.env) :: starEach es X.env := by rfl) (hpl : (backTo pos (starEach es X.env)).any (·.1) = false := by rfl) : LE X (.Call (.Name x p) (e :: es) [] pos) (lCB c t) := by
  obtain ⟨r, hr, s⟩ := hc
  exact ⟨PE.imp (pe_callTy hr hg hm hv ha.pa hn hdb he hpl) (up_cb s)⟩
end
abbrev LM := EV → List EV → EH → EK → Prop
def LMl (K : PySem.W.Frag) (T : String) (r : V → List V → Hp → VK → Prop) (c : LM) : Prop :=
  ∀ (m : Nat → Addr) (h : EH) (H : Hp) (v : EV) (x : V) (vs : List EV) (xs : List V) (P : EK) (Q : VK), RelH K m h H → RelE K m h.length H v x → RelEs K m h.length H vs xs → c v vs h P → Kon K m h.length H P Q → r x xs H Q
def isTy (T : String) (v : EV) (h : EH) : Prop := match v with
  | .str _ => T = "str"
  | .ref r => match h[r]? with
    | some (.lst _) => T = "list"
    | some (.dic _) => T = "dict"
    | _ => False
  | _ => False
def lBM (T : String) (c : LM) (to : LT) (t : LA) : LT := fun env h P => to env h fun x h1 => isTy T x h1 ∧ t env h1 fun vs h2 => c x vs h2 P
theorem isTy_sim {K : PySem.W.Frag} {m : Nat → Addr} {H : Hp} {h : EH} {T : String} {v : EV} {x : V} (R : RelH K m h H) (r : RelE K m h.length H v x) (q : isTy T v h) : tyV K T x H := by
  unfold isTy at q
  split at q
  · rw [RelE] at r; subst r; exact q
  · rw [RelE] at r
    obtain ⟨_, rfl⟩ := r
    split at q
    · rename_i e
      obtain ⟨vs, a, _⟩ := R.obj _ _ e
      exact .inl ⟨q, vs, SqL.of a⟩
    · rename_i e
      obtain ⟨vs, a, _⟩ := R.obj _ _ e
      exact .inr (.inr (.inl ⟨q, .inl ⟨vs, a⟩⟩))
    · exact q.elim
  · exact q.elim
section
variable {X : Cx} {o e : Expr} {es : List Expr} {to : LT} {t : LA} {name : Str} {apos cpos : Pos} {T id : String} {r : V → List V → Hp → VK → Prop} {c : LM}
theorem le_bm (pa : PlainAttrs T) (slot : Slot T name id) (hty : typeOf (.builtin id) = pure (.type "method_descriptor")) (hm : MtR X id r) (s : LMl X.K T r c) (ho : LE X o to) (ha : LAs X (e :: es) t)
    (hbase : attributeBase o name X.env (eval o X.env) = eval o X.env := by rfl)
    (hfew : ((backTo cpos (starEach (e :: es) X.env)).all (fun x => !x.1) && (backToKw cpos (keywordEach [] X.env)).all (fun x => x.1.isSome)
      && decide ((e :: es).length + ([] : List Keyword).length + (if ([] : List Keyword).isEmpty then 0 else 1) < 30)) = true := by rfl)
    (hline : (apos.endLine == cpos.line) = true := by rfl) (hs : starEach (e :: es) X.env = (false, eval e X.env) :: starEach es X.env := by rfl) (hplain : (backTo cpos (starEach es X.env)).any (·.1) = false := by rfl) :
    LE X (.Call (.Attribute o name apos) (e :: es) [] cpos) (lBM T c to t) :=
  ⟨PE.imp (pe_bm pa slot hty hm ho.pe ha.pa hbase hfew hline hs hplain) fun σ H Q ⟨m, env, h, P, at_, t1, k⟩ => ⟨m, env, h, _, at_, t1, fun x h1 p1 m1 H1 v E1 R1 r1 =>
    ⟨isTy_sim R1 r1 p1.1, m1, env, h1, _, at_.ex E1 R1, p1.2, fun vs h2 p2 m2 H2 xs E2 R2 r2 => s _ _ _ _ _ _ _ _ _ R2 (RelE.ex E2 _ _ r1) r2 p2 (k.ex (E1.trans E2))⟩⟩⟩
end
def LIxR (X : Cx) (o : LO) : Prop := ∃ r, IxR X r ∧ LOp X.K r o
theorem le_ix {X : Cx} {a b : Expr} {ta tb : LT} {o : LO} {pos : Pos} (hr : LIxR X o) (ha : LE X a ta) (hb : LE X b tb) (hs : PlainIx b := by exact fun _ _ => rfl) : LE X (.Subscript a b pos) (lOp o ta tb) := by
  obtain ⟨r, h, s⟩ := hr
  exact ⟨PE.imp (pe_ix h ha.pe hb.pe hs) (up_bin s)⟩
def ixE : LO := fun v w h P => match w with
  | .int i => match v with
    | .tup xs => match atI xs i with
      | some x => P x h
      | none => False
    | .ktup xs => match atI xs i with
      | some x => P x h
      | none => False
    | .str s => s.length ≤ sizeLine ∧ match atI s i with
      | some x => P (.str [x]) h
      | none => False
    | .ref r => match h[r]? with
      | some (.lst xs) => match atI xs i with
        | some x => P x h
        | none => False
      | some (.frz xs) => match atI xs i with
        | some x => P x h
        | none => False
      | _ => False
    | _ => False
  | _ => False
theorem RelEs.atI {K : PySem.W.Frag} {m : Nat → Addr} {n : Nat} {H : Hp} {es : List EV} {vs : List V} {i : Int} {x : EV} (r : RelEs K m n H es vs) (e : atI es i = some x) : ∃ v, L2.atI vs i = some v ∧ RelE K m n H x v := by
  unfold L2.atI at e ⊢
  rw [← r.length]
  cases q : ixN es.length i with
  | none => rw [q] at e; cases e
  | some j =>
    rw [q] at e
    exact r.at e
theorem lix {X : Cx} : LIxR X ixE := by
  refine ⟨_, ix_seq, ?_⟩
  intro m h H v w x y P Q R rx ry q k
  unfold ixE at q
  split at q
  · rw [RelE] at ry
    subst ry
    split at q
    · rw [RelE] at rx
      obtain ⟨a, vs, rfl, hs, r⟩ := rx
      split at q
      · rename_i e
        obtain ⟨u, a1, r1⟩ := r.atI e
        exact .inr (.inl ⟨_, _, _, u, rfl, rfl, SqT.of hs, a1, k.same R q r1⟩)
      · exact q.elim
    · rw [RelE] at rx
      obtain ⟨a, vs, rfl, hs, r⟩ := rx
      split at q
      · rename_i e
        obtain ⟨u, a1, r1⟩ := r.atI e
        exact .inr (.inl ⟨_, _, _, u, rfl, rfl, hs, a1, k.same R q r1⟩)
      · exact q.elim
    · rw [RelE] at rx
      subst rx
      obtain ⟨q1, q⟩ := q
      split at q
      · rename_i e
        exact .inr (.inr ⟨_, _, _, rfl, rfl, by rw [S_len]; exact q1, by simpa using e, k.same R q (by rw [RelE])⟩)
      · exact q.elim
    · rw [RelE] at rx
      obtain ⟨_, rfl⟩ := rx
      split at q
      · rename_i e
        obtain ⟨vs, a, r⟩ := R.obj _ _ e
        split at q
        · rename_i e
          obtain ⟨u, a1, r1⟩ := r.atI e
          exact .inl ⟨_, _, _, u, rfl, rfl, SqL.of a, a1, k.same R q r1⟩
        · exact q.elim
      · rename_i e
        obtain ⟨vs, a, r⟩ := R.obj _ _ e
        split at q
        · rename_i e
          obtain ⟨u, a1, r1⟩ := r.atI e
          exact .inl ⟨_, _, _, u, rfl, rfl, a.sql, a1, k.same R q r1⟩
        · exact q.elim
      · exact q.elim
    · exact q.elim
  · exact q.elim
abbrev LO_ := En → EH → (Option Int → EH → Prop) → Prop
def lPart : Option LT → LO_
  | none => fun _ h P => P none h
  | some t => fun env h P => t env h fun v h1 => match v with
    | .int i => P (some i) h1
    | _ => False
def upO (K : PySem.W.Frag) (t : LO_) : L2.St → Hp → (Option Int → Hp → Prop) → Prop := fun σ H Q => ∃ m env h P, At K env h m σ H ∧ t env h P ∧
  ∀ b h', P b h' → ∀ (m' : Nat → Addr) (H' : Hp), Ex K m h.length H m' h'.length H' → RelH K m' h' H' → Q b H'
def LPo (X : Cx) (e : Option Expr) (t : LO_) : Prop := ∃ u, PO X e u ∧ ∀ σ H Q, upO X.K t σ H Q → u σ H Q
theorem lpo_none {X : Cx} : LPo X none (lPart none) := ⟨_, po_none, fun σ H Q ⟨m, env, h, P, at_, t1, k⟩ => k _ _ t1 m H .refl at_.hp⟩
theorem lpo_some {X : Cx} {e : Expr} {t : LT} (he : LE X e t) : LPo X (some e) (lPart (some t)) := by
  refine ⟨_, po_some he.pe, fun σ H Q ⟨m, env, h, P, at_, t1, k⟩ => ⟨m, env, h, _, at_, t1, fun v h1 p1 m1 H1 x E1 R1 r1 => ?_⟩⟩
  cases v with
  | int i =>
    rw [RelE] at r1
    exact ⟨i, r1, k _ _ p1 m1 H1 E1 R1⟩
  | _ => exact p1.elim
def cut {α : Type} (xs : List α) (lo hi : Option Int) : List α := (xs.drop (HT.sIx xs.length 0 lo)).take (HT.sIx xs.length xs.length hi - HT.sIx xs.length 0 lo)
abbrev LSlc := EV → Option Int → Option Int → EH → EK → Prop
def slE : LSlc := fun v lo hi h P => match v with
  | .tup xs => P (.tup (cut xs lo hi)) h
  | .str s => s.length ≤ sizeLine ∧ P (.str (cut s lo hi)) h
  | .ref r => match h[r]? with
    | some (.lst xs) => P (.ref h.length) (h ++ [.lst (cut xs lo hi)])
    | some (.frz xs) => P (.ref h.length) (h ++ [.lst (cut xs lo hi)])
    | _ => False
  | _ => False
def lSl (to : LT) (tl th : LO_) : LT := fun env h P => to env h fun x h1 => tl env h1 fun l h2 => th env h2 fun u h3 => slE x l u h3 P
theorem RelEs.cut {K : PySem.W.Frag} {m : Nat → Addr} {n : Nat} {H : Hp} {es : List EV} {vs : List V} {lo hi : Option Int} (r : RelEs K m n H es vs) : RelEs K m n H (cut es lo hi) (cutV vs lo hi) := by
  unfold Y.cut cutV
  rw [← r.length]
  exact RelEs.take _ (RelEs.drop _ r)
theorem cut_S (s : List Nat) (lo hi : Option Int) : cutS (S s) lo hi = S (cut s lo hi) := by
  unfold cutS Y.cut
  rw [S_len]
theorem cut_all {α : Type} {xs : List α} {lo hi : Option Int} (h : HT.sIx xs.length 0 lo = 0 ∧ HT.sIx xs.length xs.length hi = xs.length) : cut xs lo hi = xs := by
  unfold cut
  rw [h.1, h.2]
  simp
theorem le_slice {X : Cx} {e : Expr} {lo hi : Option Expr} {to : LT} {tl th : LO_} {p2 pos : Pos} (he : LE X e to) (hl : LPo X lo tl) (hu : LPo X hi th) : LE X (.Subscript e (.Slice lo hi none p2) pos) (lSl to tl th) := by
  obtain ⟨u1, h1, s1⟩ := hl
  obtain ⟨u2, h2, s2⟩ := hu
  refine ⟨PE.imp (pe_slice (SlR.or sl_list (SlR.or sl_tupA sl_str)) he.pe h1 h2) fun σ H Q ⟨m, env, h, P, at_, t1, k⟩ => ⟨m, env, h, _, at_, t1, fun v h1 p1 m1 H1 x E1 R1 r1 => s1 _ _ _ ⟨m1, env, h1, _, at_.ex E1 R1, p1, fun l h2 p2 m2 H2 E2 R2 =>
    s2 _ _ _ ⟨m2, env, h2, _, (at_.ex E1 R1).ex E2 R2, p2, fun u h3 p3 m3 H3 E3 R3 => ?_⟩⟩⟩⟩
  have r3 := RelE.ex (E2.trans E3) _ _ r1
  have k3 := k.ex ((E1.trans E2).trans E3)
  unfold slE at p3
  split at p3
  · rename_i xs
    rw [RelE] at r3
    obtain ⟨a, vs, rfl, hs, r⟩ := r3
    refine .inr (.inl ⟨a, vs, rfl, SqT.of hs, fun w => ?_, fun _ p hp => k3.tup R3 p3 r.cut hp⟩)
    rw [← r.length] at w
    rw [cut_all w] at p3
    exact k3.same R3 p3 (by rw [RelE]; exact ⟨a, vs, rfl, hs, r⟩)
  · rw [RelE] at r3
    subst r3
    exact .inr (.inr ⟨_, rfl, by rw [S_len]; exact p3.1, by rw [cut_S]; exact k3.same R3 p3.2 (by rw [RelE])⟩)
  · rw [RelE] at r3
    obtain ⟨_, rfl⟩ := r3
    split at p3
    · rename_i e
      obtain ⟨vs, a, r⟩ := R3.obj _ _ e
      exact .inl ⟨_, _, rfl, SqL.of a, fun p hp => k3.lst R3 p3 r.cut hp⟩
    · rename_i e
      obtain ⟨vs, a, r⟩ := R3.obj _ _ e
      exact .inl ⟨_, _, rfl, a.sql, fun p hp => k3.lst R3 p3 r.cut hp⟩
    · exact p3.elim
  · exact p3.elim
end Y

namespace Y
open PySem PySem.Spec PyProof.Rows L2

def lNext : LS := fun D env h => D.nx env h
def lSeq (t u : LS) : LS := fun D env h => t { D with nx := u D } env h
def lDrop (t : LT) : LS := fun D env h => t env h fun _ h1 => D.nx env h1
def lRet (t : LT) : LS := fun D env h => t env h D.rt
def lRetN : LS := fun D _ h => D.rt .non h
def lIfS (c : LTt) (t u : LS) : LS := fun D env h => c env h fun b h1 => if b = true then t D env h1 else u D env h1
section
variable {X : Cx} {st : Stmt} {rest a b : List Stmt} {t u : LS} {e c : Expr} {te : LT} {tc : LTt} {pos : Pos}
theorem lss_nil : LSs X [] lNext := ⟨PSs.imp pss_nil fun D σ H ⟨m, env, h, P, at_, t1, k⟩ => k.nx _ _ t1 m H σ .refl at_⟩
theorem lss_cons (h1 : LSt X st t) (h2 : LSs X rest u) : LSs X (st :: rest) (lSeq t u) := by
  refine ⟨PSs.imp (pss_cons h1.ps h2.pss) fun D σ H ⟨m, env, h, P, at_, t1, k⟩ => ⟨m, env, h, { P with nx := u P }, at_, t1, ⟨?_, k.rt, k.bk, k.ct⟩⟩⟩
  intro env' h' p m' H' σ' E a
  exact ⟨m', env', h', P, a, p, k.ex E⟩
theorem lss_one (h1 : LSt X st t) : LSs X [st] t := ⟨pss_one h1.ps⟩
theorem ls_expr (he : LE X e te) (hs : swapsWith e none pos.line X.env = pure false := by rfl) : LSt X (.Expr e pos) (lDrop te) :=
  ⟨PS.imp (ps_expr he.pe hs) fun D σ H ⟨m, env, h, P, at_, t1, k⟩ => ⟨m, env, h, _, at_, t1, fun v h1 p1 m1 H1 x E1 R1 r1 => k.nx _ _ p1 m1 H1 σ E1 (at_.ex E1 R1)⟩⟩
theorem ls_ret (he : LE X e te) : LSt X (.Return (some e) pos) (lRet te) :=
  ⟨PS.imp (ps_ret he.pe) fun D σ H ⟨m, env, h, P, at_, t1, k⟩ => ⟨m, env, h, _, at_, t1, k.rt⟩⟩
theorem ls_if (hc : LTe X c tc) (ha : LSs X a t) (hb : LSs X b u) : LSt X (.If c a b pos) (lIfS tc t u) := by
  refine ⟨PS.imp (ps_if hc.pt ha.pss hb.pss) fun D σ H ⟨m, env, h, P, at_, t1, k⟩ => ⟨m, env, h, _, at_, t1, fun c h1 p1 m1 H1 E1 R1 => ?_⟩⟩
  cases c with
  | true =>
    rw [if_pos rfl] at p1 ⊢
    exact ⟨m1, env, h1, P, at_.ex E1 R1, p1, k.ex E1⟩
  | false =>
    rw [if_neg Bool.false_ne_true] at p1 ⊢
    exact ⟨m1, env, h1, P, at_.ex E1 R1, p1, k.ex E1⟩
end
inductive Pat where
  | nm (i : Nat)
  | tp (ps : List Pat)
mutual
def Pat.bind (h : EH) : Pat → EV → En → Option En
  | .nm i, v, env => some (env.set i (some v))
  | .tp ps, .tup vs, env => Pat.binds h ps vs env
  | .tp ps, .ref r, env => match h[r]? with
    | some (.lst vs) => Pat.binds h ps vs env
    | _ => none
  | .tp _, _, _ => none
def Pat.binds (h : EH) : List Pat → List EV → En → Option En
  | [], [], env => some env
  | p :: ps, v :: vs, env => match Pat.bind h p v env with
    | some e => Pat.binds h ps vs e
    | none => none
  | _, _, _ => none
end
def gSq (K : PySem.W.Frag) (n : Nat) (t : TGs) : TG := fun v σ H Q => gTup K n t v σ H Q ∨ gLst K n t v σ H Q
theorem pg_sq {X : Cx} {es : List Expr} {k : Nat} {t : TGs} {n : Nat} {pos : Pos} (hc : X.calm = true) (h : PGs X es t)
    (hn : (assignEach es X.env).length = n := by rfl) (hst : (assignEach es X.env).findIdx? (·.1) = none := by rfl) : PG X (.Tuple es k pos) (gSq X.K n t) :=
  ⟨fun pins s σ H v u Q I r hw => hw.elim (fun w => (pg_tup (k := k) (pos := pos) hc h hn hst).run pins s σ H v u Q I r w) fun w => (pg_lst (k := k) (pos := pos) hc h hn hst).run pins s σ H v u Q I r w⟩
mutual
def gP (K : PySem.W.Frag) : Pat → TG
  | .nm i => gName i
  | .tp ps => gSq K ps.length (gPs K ps)
def gPs (K : PySem.W.Frag) : List Pat → TGs
  | [] => gNil
  | p :: ps => gCons (gP K p) (gPs K ps)
end
mutual
def Pat.slots : Pat → List Nat
  | .nm i => [i]
  | .tp ps => Pat.slotsAll ps
def Pat.slotsAll : List Pat → List Nat
  | [] => []
  | p :: ps => Pat.slots p ++ Pat.slotsAll ps
end
section
variable {K : PySem.W.Frag} {m : Nat → Addr} {n : Nat} {H : Hp} {h : EH}
theorem RelN.set {env : En} {σ : L2.St} {v : EV} {x : V} (R : RelN K m n H env σ) (r : RelE K m n H v x) (i : Nat) : RelN K m n H (env.set i (some v)) (σ.set i (some x)) := by
  refine ⟨by simpa using R.1, fun j w hj => ?_⟩
  by_cases e : i = j
  · subst e
    have hl : i < env.length := by
      have := (List.getElem?_eq_some_iff.mp hj).1
      simpa using this
    rw [List.getElem?_set_self hl] at hj
    cases hj
    exact ⟨x, List.getElem?_set_self (by rw [← R.1]; exact hl), r⟩
  · rw [List.getElem?_set_ne e] at hj
    obtain ⟨y, a, b⟩ := R.2 j w hj
    exact ⟨y, by rw [List.getElem?_set_ne e]; exact a, b⟩
mutual
theorem Pat.sim (RH : RelH K m h H) : ∀ (p : Pat) (v : EV) (x : V) (env env' : En) (σ : L2.St), RelN K m h.length H env σ → RelE K m h.length H v x → Pat.bind h p v env = some env' →
    ∃ σ', (∀ Q, Q σ' H → gP K p x σ H Q) ∧ RelN K m h.length H env' σ' ∧ (∀ i, i ∉ Pat.slots p → σ'[i]? = σ[i]?) ∧ σ'.length = σ.length
  | .nm i, v, x, env, env', σ, R, r, e => by
    rw [Pat.bind] at e
    cases e
    refine ⟨σ.set i (some x), fun Q q => by rw [gP]; exact q, R.set r i, fun j hj => ?_, by simp⟩
    rw [Pat.slots] at hj
    exact List.getElem?_set_ne (fun z => hj (by simp [z]))
  | .tp ps, .tup vs, x, env, env', σ, R, r, e => by
    rw [Pat.bind] at e
    rw [RelE] at r
    obtain ⟨a, xs, rfl, hs, r⟩ := r
    obtain ⟨σ', f, R', s, l, z⟩ := Pat.sims RH ps vs xs env env' σ R r e
    refine ⟨σ', fun Q q => ?_, R', fun j hj => s j (by rw [Pat.slots] at hj; exact hj), z⟩
    rw [gP]
    exact .inl ⟨a, xs, rfl, SqT.of hs, l, f Q q⟩
  | .tp ps, .non, x, env, env', σ, R, r, e => by simp [Pat.bind] at e
  | .tp ps, .ktup _, x, env, env', σ, R, r, e => by simp [Pat.bind] at e
  | .tp ps, .bl _, x, env, env', σ, R, r, e => by simp [Pat.bind] at e
  | .tp ps, .int _, x, env, env', σ, R, r, e => by simp [Pat.bind] at e
  | .tp ps, .str _, x, env, env', σ, R, r, e => by simp [Pat.bind] at e
  | .tp ps, .ref q, x, env, env', σ, R, r, e => by
    rw [Pat.bind] at e
    rw [RelE] at r
    obtain ⟨_, rfl⟩ := r
    split at e
    · rename_i vs e1
      obtain ⟨xs, a, r2⟩ := RH.obj _ _ e1
      obtain ⟨σ', f, R', s, l, z⟩ := Pat.sims RH ps vs xs env env' σ R r2 e
      refine ⟨σ', fun Q q => ?_, R', fun j hj => s j (by rw [Pat.slots] at hj; exact hj), z⟩
      rw [gP]
      exact .inr ⟨_, xs, rfl, SqL.of a, l, f Q q⟩
    · cases e
  | .tp ps, .adr _, x, env, env', σ, R, r, e => by simp [Pat.bind] at e
  | .tp ps, .ty _, x, env, env', σ, R, r, e => by simp [Pat.bind] at e
theorem Pat.sims (RH : RelH K m h H) : ∀ (ps : List Pat) (vs : List EV) (xs : List V) (env env' : En) (σ : L2.St), RelN K m h.length H env σ → RelEs K m h.length H vs xs → Pat.binds h ps vs env = some env' →
    ∃ σ', (∀ Q, Q σ' H → gPs K ps xs σ H Q) ∧ RelN K m h.length H env' σ' ∧ (∀ i, i ∉ Pat.slotsAll ps → σ'[i]? = σ[i]?) ∧ xs.length = ps.length ∧ σ'.length = σ.length
  | [], [], xs, env, env', σ, R, r, e => by
    rw [Pat.binds] at e
    cases e
    rw [RelEs] at r
    subst r
    exact ⟨σ, fun Q q => by rw [gPs]; exact ⟨rfl, q⟩, R, fun _ _ => rfl, rfl, rfl⟩
  | [], _ :: _, xs, env, env', σ, R, r, e => by simp [Pat.binds] at e
  | _ :: _, [], xs, env, env', σ, R, r, e => by simp [Pat.binds] at e
  | p :: ps, v :: vs, xs, env, env', σ, R, r, e => by
    rw [Pat.binds] at e
    rw [RelEs] at r
    obtain ⟨x, l, rfl, r1, r2⟩ := r
    split at e
    · rename_i env1 e1
      obtain ⟨σ1, f1, R1, s1, z1⟩ := Pat.sim RH p v x env env1 σ R r1 e1
      obtain ⟨σ2, f2, R2, s2, l2, z2⟩ := Pat.sims RH ps vs l env1 env' σ1 R1 r2 e
      refine ⟨σ2, fun Q q => ?_, R2, fun j hj => ?_, by simp [l2], z2.trans z1⟩
      · rw [gPs]
        exact ⟨x, l, rfl, f1 _ (f2 Q q)⟩
      · rw [Pat.slotsAll] at hj
        rw [s2 j (fun z => hj (List.mem_append_right _ z)), s1 j (fun z => hj (List.mem_append_left _ z))]
    · cases e
end
end
structure LG (X : Cx) (tg : Expr) (p : Pat) : Prop where
  pg : PG X tg (gP X.K p)
structure LGs (X : Cx) (ts : List Expr) (ps : List Pat) : Prop where
  pgs : PGs X ts (gPs X.K ps)
section
variable {X : Cx} {pos : Pos}
theorem lg_name (i : Nat) {x : Str} (hN : X.N.Nodup) (hi : X.N[i]? = some x := by rfl) (hx : Loc X.env.scope x := by first | exact Or.inl rfl | exact Or.inr rfl) (hf : X.fn x = true ∨ X.env.scope.names.lookup x = some .local := by first | exact .inl rfl | exact .inr rfl) : LG X (.Name x pos) (.nm i) :=
  ⟨by rw [gP]; exact pg_name hN hi hx hf⟩
theorem lgs_nil : LGs X [] [] := ⟨by rw [gPs]; exact pgs_nil⟩
theorem lgs_cons {e : Expr} {es : List Expr} {p : Pat} {ps : List Pat} (h1 : LG X e p) (h2 : LGs X es ps) (hs : (assignEach (e :: es) X.env).map (·.2) = assign e X.env :: (assignEach es X.env).map (·.2) := by rfl) : LGs X (e :: es) (p :: ps) :=
  ⟨by rw [gPs]; exact pgs_cons h1.pg h2.pgs hs⟩
theorem lg_tup {es : List Expr} {k : Nat} {ps : List Pat} (hc : X.calm = true) (h : LGs X es ps) (hn : (assignEach es X.env).length = ps.length := by rfl) (hst : (assignEach es X.env).findIdx? (·.1) = none := by rfl) : LG X (.Tuple es k pos) (.tp ps) :=
  ⟨by rw [gP]; exact pg_sq hc h.pgs hn hst⟩
end
def lBind (h : EH) (p : Pat) (v : EV) (env : En) (P : En → Prop) : Prop := match Pat.bind h p v env with
  | some e => P e
  | none => False
theorem bind_sim {K : PySem.W.Frag} {m : Nat → Addr} {h : EH} {H : Hp} {p : Pat} {v : EV} {x : V} {env : En} {σ : L2.St} {P : En → Prop} (RH : RelH K m h H) (R : RelN K m h.length H env σ) (r : RelE K m h.length H v x) (q : lBind h p v env P) :
    ∃ env' σ', P env' ∧ (∀ Q, Q σ' H → gP K p x σ H Q) ∧ RelN K m h.length H env' σ' ∧ (∀ i, i ∉ Pat.slots p → σ'[i]? = σ[i]?) ∧ σ'.length = σ.length := by
  unfold lBind at q
  split at q
  · rename_i env' e
    obtain ⟨σ', f, R', s⟩ := Pat.sim RH p v x env env' σ R r e
    exact ⟨env', σ', q, f, R', s⟩
  · exact q.elim
def lAsg (te : LT) (p : Pat) : LS := fun D env h => te env h fun v h1 => lBind h1 p v env fun env' => D.nx env' h1
def lSet (te : LT) (i : Nat) : LS := fun D env h => te env h fun v h1 => D.nx (env.set i (some v)) h1
section
variable {X : Cx} {pos : Pos}
theorem ls_asg {tg e : Expr} {te : LT} {p : Pat} (he : LE X e te) (hg : LG X tg p) (hs : swapsWithSole [tg] e pos.line X.env = pure false := by rfl) (hw : swappedStores [tg] e X.env = pure none := by rfl)
    (h1 : (assignEach [tg] X.env).map (·.2) = [assign tg X.env] := by rfl) : LSt X (.Assign [tg] e pos) (lAsg te p) :=
  ⟨PS.imp (ps_asg he.pe hg.pg hs hw h1) fun D σ H ⟨m, env, h, P, at_, t1, k⟩ => ⟨m, env, h, _, at_, t1, fun v h1 p1 m1 H1 x E1 R1 r1 => by
    obtain ⟨env', σ', q, f, R', _, _⟩ := bind_sim R1 (at_.nm.ex E1) r1 p1
    exact f _ (k.nx _ _ q m1 H1 σ' E1 ⟨R1, R'⟩)⟩⟩
theorem ls_set (i : Nat) {x : Str} {e : Expr} {te : LT} {pos' : Pos} (hN : X.N.Nodup) (he : LE X e te) (hi : X.N[i]? = some x := by rfl) (hx : Loc X.env.scope x := by first | exact Or.inl rfl | exact Or.inr rfl) (hs : swapsWith e (some (.Name x pos')) pos.line X.env = pure false := by rfl)
    (hf : X.fn x = true ∨ X.env.scope.names.lookup x = some .local := by first | exact .inl rfl | exact .inr rfl) : LSt X (.Assign [.Name x pos'] e pos) (lSet te i) :=
  ⟨PS.imp (ps_set hN hi hx he.pe hs hf) fun D σ H ⟨m, env, h, P, at_, t1, k⟩ => ⟨m, env, h, _, at_, t1, fun v h1 p1 m1 H1 x E1 R1 r1 => k.nx _ _ p1 m1 H1 _ E1 ⟨R1, (at_.nm.ex E1).set r1 i⟩⟩⟩
def lPar (i j : Nat) (ta : LA) : LS := fun D env h => ta env h fun vs h1 => match vs with
  | [v, w] => D.nx ((env.set i (some v)).set j (some w)) h1
  | _ => False
theorem ls_par (i j : Nat) {x y : Str} {a b : Expr} {ta : LA} {px py pt : Pos} {kt k2 pt2} (hc : X.calm = true) (hN : X.N.Nodup) (ha : LAs X [a, b] ta) (hi : X.N[i]? = some x := by rfl) (hj : X.N[j]? = some y := by rfl) (hij : i ≠ j := by decide)
    (hx : X.env.scope.names.lookup x = some .local := by rfl) (hy : X.env.scope.names.lookup y = some .local := by rfl)
    (hw : swappedStores [.Tuple [.Name x px, .Name y py] kt pt] (.Tuple [a, b] k2 pt2) X.env = pure (some [x, y]) := by rfl)
    (hs : swapsWithSole [.Tuple [.Name x px, .Name y py] kt pt] (.Tuple [a, b] k2 pt2) pos.line X.env = pure false := by rfl) :
    LSt X (.Assign [.Tuple [.Name x px, .Name y py] kt pt] (.Tuple [a, b] k2 pt2) pos) (lPar i j ta) := by
  refine ⟨PS.imp (ps_par hc hN hi hj hij hx hy ha.pa hw hs) fun D σ H ⟨m, env, h, P, at_, t1, k⟩ => ⟨m, env, h, _, at_, t1, fun vs h1 p1 m1 H1 xs E1 R1 r1 => ?_⟩⟩
  split at p1
  · obtain ⟨v, w, rfl, a, b⟩ := r1.two_inv
    exact ⟨v, w, rfl, k.nx _ _ p1 m1 H1 _ E1 ⟨R1, ((at_.nm.ex E1).set a i).set b j⟩⟩
  · exact p1.elim
def setE (o i v : EV) (h : EH) (P : EH → Prop) : Prop := match o, i with
  | .ref r, .int k => match h[r]? with
    | some (.lst xs) => match ixN xs.length k with
      | some j => P (h.set r (.lst (xs.set j v)))
      | none => False
    | _ => False
  | _, _ => False
theorem set_sim {K : PySem.W.Frag} {m : Nat → Addr} {h : EH} {H : Hp} {o i v : EV} {x y z : V} {P : EH → Prop} {Q : Hp → Prop} (R : RelH K m h H) (rx : RelE K m h.length H o x) (ry : RelE K m h.length H i y) (rz : RelE K m h.length H v z) (q : setE o i v h P)
    (k : ∀ h', P h' → ∀ H', Ex K m h.length H m h'.length H' → RelH K m h' H' → Q H') : rSetL x y z H Q := by
  unfold setE at q
  split at q
  · rw [RelE] at rx
    rw [RelE] at ry
    obtain ⟨_, rfl⟩ := rx
    subst ry
    split at q
    · rename_i ls e
      obtain ⟨vs, a, r⟩ := R.obj _ _ e
      split at q
      · rename_i j ej
        refine ⟨_, vs, _, j, rfl, rfl, a, by rw [← r.length]; exact ej, ?_⟩
        have E := Ex.write (o := .lst (vs.set j z)) (e' := EO.lst (List.set ls j v)) R e
        exact k _ q _ E (R.write e ⟨_, upd_same, RelEs.set (RelE.ex E _ _ rz) j (RelEs.ex E _ _ r)⟩)
      · exact q.elim
    · exact q.elim
  · exact q.elim
def lSetI (to ti te : LT) : LS := fun D env h => te env h fun v h1 => to env h1 fun o h2 => ti env h2 fun i h3 => setE o i v h3 fun h4 => D.nx env h4
def getE (v w : EV) (h : EH) (P : EV → Prop) : Prop := match v, w with
  | .ref r, .int i => match h[r]? with
    | some (.lst xs) => 0 ≤ i ∧ match xs[i.toNat]? with
      | some x => P x
      | none => False
    | _ => False
  | _, _ => False
def lAugS (f : Int → Int → Int) (to ti te : LT) : LS := fun D env h => to env h fun o h1 => ti env h1 fun i h2 => getE o i h2 fun x => te env h2 fun y h4 => match x, y with
  | .int a, .int b => setE o i (.int (f a b)) h4 fun h5 => D.nx env h5
  | _, _ => False
def rGetN (K : PySem.W.Frag) : R2 := fun o i H Q => ∃ (p : Addr) (xs : List V) (k : Int) (x : V), o = .ref p ∧ i = .int k ∧ SqL K H p xs ∧ 0 ≤ k ∧ xs[k.toNat]? = some x ∧ Q x H
theorem pget_list : PGet X (rGetN X.K) := by
  intro pins s σ H o i ov iv Q I ro ri q
  obtain ⟨p, xs, k, x, rfl, rfl, hq, h0, hx, q⟩ := q
  cases ro
  obtain ⟨t, rfl⟩ := ri
  obtain ⟨its, rv, pl, hz⟩ := I.list hq
  obtain ⟨u, hu, ru⟩ := rv.get hx
  have hlt := (List.getElem?_eq_some_iff.mp hx).1
  have hs : sizeLine = 16777216 := by decide
  exact wpAny_getItem_list pl.isList h0 (by omega) (by simpa using hu) ⟨x, H, I, ru, q⟩
theorem ls_augS {o i e : Expr} {to ti te : LT} {op : Operator} {f : Int → Int → Int} {tpos : Pos} (hp : PIp X op (ipI f)) (ho : LE X o to) (hi : LE X i ti) (he : LE X e te)
    (ha : ∀ ov iv new, augStore i ov iv new = (do holding [new, ov, iv] (setItem ov iv new); release [new, ov, iv] []; pure .next) := by intros; rfl) : LSt X (.AugAssign (.Subscript o i tpos) op e pos) (lAugS f to ti te) := by
  refine ⟨PS.imp (ps_augS ho.pe hi.pe pget_list he.pe hp set_list ha) fun D σ H ⟨m, env, h, P, at_, t1, k⟩ => ⟨m, env, h, _, at_, t1, fun o h1 p1 m1 H1 x E1 R1 r1 => ⟨m1, env, h1, _, at_.ex E1 R1, p1, fun i h2 p2 m2 H2 y E2 R2 r2 => ?_⟩⟩⟩
  have ro2 := RelE.ex E2 _ _ r1
  unfold getE at p2
  split at p2
  · have ro := ro2
    have ri := r2
    rw [RelE] at ro
    rw [RelE] at ri
    obtain ⟨_, e1⟩ := ro
    split at p2
    · rename_i ls e
      obtain ⟨vs, a, r⟩ := R2.obj _ _ e
      obtain ⟨h0, p2⟩ := p2
      split at p2
      · rename_i w ew
        obtain ⟨u, hu, ru⟩ := r.at ew
        refine ⟨_, vs, _, u, e1, ri, SqL.of a, h0, hu, m2, env, h2, _, (at_.ex E1 R1).ex E2 R2, p2, fun v h3 p3 m3 H3 z E3 R3 r3 => ?_⟩
        have ru3 := RelE.ex E3 _ _ ru
        split at p3
        · rw [RelE] at ru3
          rw [RelE] at r3
          refine ⟨_, _, ru3, r3, ?_⟩
          exact set_sim R3 (RelE.ex E3 _ _ ro2) (RelE.ex E3 _ _ r2) (by rw [RelE]) p3 fun h4 p4 H4 E4 R4 => k.nx _ _ p4 m3 H4 σ (((E1.trans E2).trans E3).trans E4) ((((at_.ex E1 R1).ex E2 R2).ex E3 R3).ex E4 R4)
        · exact p3.elim
      · exact p2.elim
    · exact p2.elim
  · exact p2.elim
end
abbrev LI := En → EH → ((EH → Prop) → List EV → EH → Prop) → Prop
def SimIt (K : PySem.W.Frag) (m : Nat → Addr) (n : Nat) (H : Hp) (J : It) (g : EH → Prop) (xs : List EV) : Prop :=
  ∀ (i : Nat) (h' : EH) (m' : Nat → Addr) (H' : Hp), Ex K m n H m' h'.length H' → RelH K m' h' H' → g h' →
    (∀ x, xs[i]? = some x → J.go i H' ∧ ∀ v H2, J.yld i H' v H2 → Ex K m' h'.length H' m' h'.length H2 ∧ RelH K m' h' H2 ∧ RelE K m' h'.length H2 x v) ∧ (xs.length = i → J.stop i H')
def upI (K : PySem.W.Frag) (t : LI) : TI := fun σ H R => ∃ m env h P, At K env h m σ H ∧ t env h P ∧
  ∀ g xs h', P g xs h' → ∀ (m' : Nat → Addr) (H' : Hp) (J : It), Ex K m h.length H m' h'.length H' → RelH K m' h' H' → SimIt K m' h'.length H' J g xs → R J H'
structure LIt (X : Cx) (tg iter : Expr) (t : LI) : Prop where
  pi : PI X tg iter (upI X.K t)
def lTrue : EH → Prop := fun _ => True
def loopE (g : EH → Prop) (p : Pat) (tb : LS) (D : LEnds) : List EV → En → EH → Prop
  | [], env, h => g h ∧ D.nx env h
  | x :: xs, env, h => g h ∧ lBind h p x env fun env2 => tb { D with nx := loopE g p tb D xs, ct := loopE g p tb D xs, bk := D.nx } env2 h
def lFor (ti : LI) (p : Pat) (tb : LS) : LS := fun D env h => ti env h fun g xs h1 => loopE g p tb D xs env h1
section
variable {X : Cx} {pos : Pos}
theorem ls_for {tg iter : Expr} {body : List Stmt} {ti : LI} {p : Pat} {tb : LS} (hp : PassesOwn (model X.prog X.w) X.A X.env X.xe) (hc : X.calm = true) (hi : LIt X tg iter ti) (hg : LG X tg p) (hb : LSs X body tb)
    (hs : ∀ x, foldedSetIterable iter X.env x = pure x := by intro _; rfl) : LSt X (.For tg iter body [] pos) (lFor ti p tb) := by
  refine ⟨PS.imp (ps_for hp hc hi.pi hg.pg hb.pss hs) fun D σ H ⟨m, env, h, P, at_, t1, k⟩ => ⟨m, env, h, _, at_, t1, fun g xs h1 p1 m1 H1 J E1 R1 sim => ?_⟩⟩
  refine ⟨fun i c σ' H' => c = xs.length - i ∧ i ≤ xs.length ∧ ∃ m2 env2 h2, Ex X.K m1 h1.length H1 m2 h2.length H' ∧ At X.K env2 h2 m2 σ' H' ∧ loopE g p tb P (xs.drop i) env2 h2, ⟨xs.length, by simp, Nat.zero_le _, m1, env, h1, .refl, at_.ex E1 R1, by simpa using p1⟩, ?_⟩
  rintro i c σ' H' ⟨rfl, hi, m2, env2, h2, E2, a2, q⟩
  by_cases hlt : i < xs.length
  · have ed : xs.drop i = xs[i] :: xs.drop (i + 1) := List.drop_eq_getElem_cons hlt
    rw [ed, loopE] at q
    obtain ⟨qg, q⟩ := q
    obtain ⟨s1, s2⟩ := sim i h2 m2 H' E2 a2.hp qg
    obtain ⟨go, yl⟩ := s1 xs[i] (List.getElem?_eq_getElem hlt)
    refine .inr ⟨go, fun σ3 H3 => ∃ m3 env3 h3, Ex X.K m1 h1.length H1 m3 h3.length H3 ∧ At X.K env3 h3 m3 σ3 H3 ∧ loopE g p tb P (xs.drop (i + 1)) env3 h3, fun σ3 H3 ⟨m3, env3, h3, E3, a3, q3⟩ => ⟨xs.length - (i + 1), by omega, rfl, hlt, m3, env3, h3, E3, a3, q3⟩, fun v H3 y => ?_⟩
    obtain ⟨E3, R3, r3⟩ := yl v H3 y
    obtain ⟨env4, σ4, q4, f, R4, _, _⟩ := bind_sim R3 (a2.nm.ex E3) r3 q
    refine f _ ⟨m2, env4, h2, _, ⟨R3, R4⟩, q4, ?_⟩
    have E13 := E2.trans E3
    have k13 := k.ex (E1.trans E13)
    exact ⟨fun e5 h5 p5 m5 H5 σ5 E5 a5 => ⟨m5, e5, h5, E13.trans E5, a5, p5⟩, k13.rt, k13.nx, fun e5 h5 p5 m5 H5 σ5 E5 a5 => ⟨m5, e5, h5, E13.trans E5, a5, p5⟩⟩
  · have e : i = xs.length := by omega
    subst e
    rw [List.drop_length, loopE] at q
    obtain ⟨_, s2⟩ := sim xs.length h2 m2 H' E2 a2.hp q.1
    exact .inl ⟨s2 rfl, k.nx _ _ q.2 m2 H' σ' (E1.trans E2) a2⟩
def lIt (t : LT) : LI := fun env h P => t env h fun v h1 => match v with
  | .ref r => match h1[r]? with
    | some (.lst xs) => P (fun h' => h'[r]? = some (.lst xs)) xs h1
    | some (.frz xs) => P (fun h' => h'[r]? = some (.frz xs)) xs h1
    | _ => False
  | .tup xs => P lTrue xs h1
  | .ktup xs => P lTrue xs h1
  | .str s => P lTrue (s.map fun c => .str [c]) h1
  | _ => False
def iAny (K : PySem.W.Frag) (te : TE) : TI := fun σ H R => te σ H fun x H1 => (∃ a, x = .ref a ∧ (∃ xs, SqL K H1 a xs) ∧ R (Itl K a) H1) ∨ (∃ a, x = .ref a ∧ (∃ xs, SqT K H1 a xs) ∧ R (Itt K a) H1) ∨ ∃ z, x = .str z ∧ R (Its z) H1
theorem pi_any {tg e : Expr} {te : TE} (he : PE X e te) : PI X tg e (iAny X.K te) := by
  refine ⟨fun pins s σ H R I h => thn (he.run pins s σ H _ I h) fun v s1 ⟨x, H1, I1, r1, q⟩ => ?_⟩
  rcases q with ⟨a, rfl, ⟨xs, hq⟩, q⟩ | ⟨a, rfl, ⟨xs, hq⟩, q⟩ | ⟨z, rfl, q⟩
  · cases r1
    obtain ⟨its, rv, p, hz⟩ := I1.list hq
    exact wpAny_pyIter_list p.isList (pi_one (tk := s1.toks) I1 _ (turn_list a _) ⟨_, Heap.get?_push_size _ rfl, rfl, rfl⟩ q)
  · cases r1
    obtain ⟨its, rv, p, hz⟩ := I1.tuple hq
    exact wpAny_pyIter_tuple (show s1.heap.IsTuple a its.toArray from p) (pi_one (tk := s1.toks) I1 _ (turn_tuple a _) ⟨_, Heap.get?_push_size _ rfl, rfl, rfl⟩ q)
  · obtain ⟨t, rfl⟩ := r1
    cases ha : z.cps.all (· < 128)
    · exact wpAny_pyIter_wide ha (pi_one (tk := s1.toks) I1 _ (turn_str _ z t "str_iterator" (.inr rfl)) ⟨_, Heap.get?_push_size _ rfl, rfl, rfl⟩ q)
    · exact wpAny_pyIter_ascii ha (pi_one (tk := s1.toks) I1 _ (turn_str _ z t "str_ascii_iterator" (.inl rfl)) ⟨_, Heap.get?_push_size _ rfl, rfl, rfl⟩ q)
theorem SimIt.lst {K : PySem.W.Frag} {m : Nat → Addr} {n r : Nat} {H : Hp} {xs : List EV} {g : EH → Prop} (hr : r < n)
    (hh : ∀ h' m' H', Ex K m n H m' h'.length H' → RelH K m' h' H' → g h' → ∃ us, SqL K H' (m' r) us ∧ RelEs K m' h'.length H' xs us) : SimIt K m n H (Itl K (m r)) g xs := by
  intro i h' m' H' E' R' gh
  obtain ⟨us, s1, r1⟩ := hh h' m' H' E' R' gh
  rw [E'.eq r hr] at s1
  refine ⟨fun x hx => ?_, fun hi => ⟨us, s1, by rw [← r1.length]; exact Nat.le_of_eq hi⟩⟩
  obtain ⟨u, hu, ru⟩ := r1.at hx
  refine ⟨⟨us, u, s1, hu⟩, fun v H2 ⟨e, y⟩ => ?_⟩
  subst e
  have := y us s1
  rw [hu] at this
  cases this
  exact ⟨.refl, R', ru⟩
theorem lit_any {tg e : Expr} {t : LT} (he : LE X e t) : LIt X tg e (lIt t) := by
  refine ⟨PI.imp (pi_any he.pe) fun σ H R ⟨m, env, h, P, at_, t1, k⟩ => ⟨m, env, h, _, at_, t1, fun v h1 p1 m1 H1 x E1 R1 r1 => ?_⟩⟩
  split at p1
  · rename_i r
    rw [RelE] at r1
    obtain ⟨hr, rfl⟩ := r1
    split at p1
    · rename_i xs e
      obtain ⟨vs, a, r2⟩ := R1.obj _ _ e
      refine .inl ⟨_, rfl, ⟨vs, SqL.of a⟩, k _ xs h1 p1 m1 H1 _ E1 R1 (SimIt.lst hr fun h' m' H' E' R' gh => ?_)⟩
      obtain ⟨us, a', r'⟩ := R'.obj _ _ gh
      exact ⟨us, SqL.of a', r'⟩
    · rename_i xs e
      obtain ⟨vs, a, r2⟩ := R1.obj _ _ e
      refine .inl ⟨_, rfl, ⟨vs, a.sql⟩, k _ xs h1 p1 m1 H1 _ E1 R1 (SimIt.lst hr fun h' m' H' E' R' gh => ?_)⟩
      obtain ⟨us, a', r'⟩ := R'.obj _ _ gh
      exact ⟨us, a'.sql, r'⟩
    · exact p1.elim
  · rename_i xs
    rw [RelE] at r1
    obtain ⟨a, vs, rfl, hs, r2⟩ := r1
    refine .inr (.inl ⟨_, rfl, ⟨vs, SqT.of hs⟩, k _ xs h1 p1 m1 H1 _ E1 R1 fun i h' m' H' E' R' _ => ?_⟩)
    have hs' := E'.tup _ _ (SqT.of hs)
    have r' := RelEs.ex E' _ _ r2
    refine ⟨fun x hx => ?_, fun hi => ⟨vs, hs', by rw [← r'.length]; exact Nat.le_of_eq hi⟩⟩
    obtain ⟨u, hu, ru⟩ := r'.at hx
    refine ⟨⟨vs, u, hs', hu⟩, fun v H2 ⟨e, y⟩ => ?_⟩
    subst e
    have := y vs hs'
    rw [hu] at this
    cases this
    exact ⟨.refl, R', ru⟩
  · rename_i xs
    rw [RelE] at r1
    obtain ⟨a, vs, rfl, hs, r2⟩ := r1
    refine .inr (.inl ⟨_, rfl, ⟨vs, hs⟩, k _ xs h1 p1 m1 H1 _ E1 R1 fun i h' m' H' E' R' _ => ?_⟩)
    have hs' := E'.tup _ _ hs
    have r' := RelEs.ex E' _ _ r2
    refine ⟨fun x hx => ?_, fun hi => ⟨vs, hs', by rw [← r'.length]; exact Nat.le_of_eq hi⟩⟩
    obtain ⟨u, hu, ru⟩ := r'.at hx
    refine ⟨⟨vs, u, hs', hu⟩, fun v H2 ⟨e, y⟩ => ?_⟩
    subst e
    have := y vs hs'
    rw [hu] at this
    cases this
    exact ⟨.refl, R', ru⟩
  · rename_i s
    rw [RelE] at r1
    subst r1
    refine .inr (.inr ⟨_, rfl, k _ _ h1 p1 m1 H1 _ E1 R1 fun i h' m' H' E' R' _ => ?_⟩)
    refine ⟨fun x hx => ?_, fun hi => ?_⟩
    · rw [List.getElem?_map] at hx
      obtain ⟨c, hc, rfl⟩ := Option.map_eq_some_iff.mp hx
      have hl := (List.getElem?_eq_some_iff.mp hc).1
      refine ⟨by show i < s.toArray.size; simpa using hl, fun v H2 ⟨e, c', hc', y⟩ => ?_⟩
      subst e y
      have e2 : s[i]? = some c' := by simpa using hc'
      rw [hc] at e2
      cases e2
      exact ⟨.refl, R', by rw [RelE]⟩
    · show s.toArray.size ≤ i
      simpa using Nat.le_of_eq hi
  · exact p1.elim
def rangeL (lo : Int) (n : Nat) : List EV := (List.range n).map fun (i : Nat) => EV.int (lo + i)
def lRng1 (ta : LA) : LI := fun env h P => ta env h fun vs h1 => match vs with
  | [.int j] => (-(2 ^ 62) ≤ j ∧ j < 2 ^ 62) ∧ P lTrue (rangeL 0 j.toNat) h1
  | _ => False
def lRng2 (ta : LA) : LI := fun env h P => ta env h fun vs h1 => match vs with
  | [.int i, .int j] => (-(2 ^ 62) ≤ i ∧ i < 2 ^ 62 ∧ -(2 ^ 62) ≤ j ∧ j < 2 ^ 62) ∧ P lTrue (rangeL i (j - i).toNat) h1
  | _ => False
theorem SimIt.rng {K : PySem.W.Frag} {m : Nat → Addr} {n : Nat} {H : Hp} {lo : Int} {k : Nat} {g : EH → Prop} : SimIt K m n H (Itr lo k) g (rangeL lo k) := by
  intro i h' m' H' E' R' gh
  unfold rangeL
  refine ⟨fun x hx => ?_, fun hi => by show k ≤ i; simpa using Nat.le_of_eq hi⟩
  rw [List.getElem?_map] at hx
  obtain ⟨j, hj, rfl⟩ := Option.map_eq_some_iff.mp hx
  obtain ⟨hl, e⟩ := List.getElem?_eq_some_iff.mp hj
  rw [List.length_range] at hl
  rw [List.getElem_range] at e
  subst e
  refine ⟨hl, fun v H2 ⟨e1, e2⟩ => ?_⟩
  subst e1 e2
  exact ⟨.refl, R', by rw [RelE]⟩
theorem lit_range1 {tg a : Expr} {ta : LA} {p pos : Pos} (hg : Gl X "range") (hm : X.mg "range" = none) (ha : LAs X [a] ta) (hs : starEach [a] X.env = [(false, eval a X.env)] := by rfl) : LIt X tg (.Call (.Name "range" p) [a] [] pos) (lRng1 ta) := by
  refine ⟨PI.imp (pi_range1 hg hm ha.pa hs) fun σ H R ⟨m, env, h, P, at_, t1, k⟩ => ⟨m, env, h, _, at_, t1, fun vs h1 p1 m1 H1 xs E1 R1 r1 => ?_⟩⟩
  split at p1
  · obtain ⟨v, rfl, r2⟩ := r1.one_inv
    rw [RelE] at r2
    subst r2
    exact ⟨_, rfl, p1.1.1, p1.1.2, k _ _ h1 p1.2 m1 H1 _ E1 R1 SimIt.rng⟩
  · exact p1.elim
def wipeE (env : En) : List Nat → En
  | [] => env
  | v :: vs => (wipeE env vs).set v none
theorem RelN.wipe {K : PySem.W.Frag} {m : Nat → Addr} {n : Nat} {H : Hp} {env : En} {σ : L2.St} (R : RelN K m n H env σ) : ∀ vs, RelN K m n H (wipeE env vs) (wipe σ vs)
  | [] => R
  | v :: vs => by
    have r := RelN.wipe R vs
    unfold wipeE L2.wipe
    refine ⟨by simpa using r.1, fun j w hj => ?_⟩
    by_cases e : v = j
    · subst e
      have hl : v < (wipeE env vs).length := by
        have := (List.getElem?_eq_some_iff.mp hj).1
        simpa using this
      rw [List.getElem?_set_self hl] at hj
      cases hj
    · rw [List.getElem?_set_ne e] at hj ⊢
      exact r.2 j w hj
theorem wipe_at (σ : L2.St) : ∀ (vs : List Nat) (i : Nat), (wipe σ vs)[i]? = if i ∈ vs then (σ[i]?).map (fun _ => none) else σ[i]?
  | [], i => by simp [L2.wipe]
  | v :: vs, i => by
    unfold L2.wipe
    rw [List.getElem?_set, wipe_at σ vs i, wipe_length]
    by_cases e : v = i
    · subst e
      by_cases hl : v < σ.length
      · simp [hl]
      · simp [hl]
    · have : ¬ i = v := fun z => e z.symm
      simp [e, this]
theorem wipe_back {σ σ' : L2.St} {vs ss : List Nat} (h : ∀ i, i ∉ ss → σ'[i]? = (wipe σ vs)[i]?) (hs : ∀ i ∈ ss, i ∈ vs) (hl : σ'.length = σ.length) : wipe σ' vs = wipe σ vs := by
  refine List.ext_getElem? fun i => ?_
  rw [wipe_at, wipe_at]
  by_cases hv : i ∈ vs
  · rw [if_pos hv, if_pos hv]
    by_cases hi : i < σ.length
    · rw [List.getElem?_eq_getElem hi, List.getElem?_eq_getElem (by omega)]; rfl
    · rw [List.getElem?_eq_none (by omega), List.getElem?_eq_none (by omega)]
  · rw [if_neg hv, if_neg hv, h i fun z => hv (hs i z), wipe_at, if_neg hv]
structure LTs (X : Cx) (ifs : List Expr) (t : LTt) : Prop where
  pts : PTs X ifs (upT X.K t)
def lYes : LTt := fun _ h P => P true h
theorem PTs.imp {e : List Expr} {t t' : TT} (h : PTs X e t) (i : ∀ σ H Q, t' σ H Q → t σ H Q) : PTs X e t' := ⟨fun pins s σ H Q I q => h.run pins s σ H Q I (i σ H Q q)⟩
theorem lts_nil : LTs X [] lYes := ⟨PTs.imp pts_nil fun σ H Q ⟨m, env, h, P, at_, t1, k⟩ => k _ _ t1 m H .refl at_.hp⟩
theorem lts_one {c : Expr} {t : LTt} (h : LTe X c t) : LTs X [c] t := ⟨pts_one h.pt⟩
def lcE (g : EH → Prop) (p : Pat) (tt : LTt) (te : LT) (d : Nat) (env : En) (P : EK) : List EV → EH → Prop
  | [], h => g h ∧ P (.ref d) h
  | x :: xs, h => g h ∧ lBind h p x env fun env2 => tt env2 h fun b h3 => if b = true then te env2 h3 fun y h4 => match h4[d]? with
      | some (.lst acc) => acc.length < sizeLine ∧ lcE g p tt te d env P xs (h4.set d (.lst (acc ++ [y])))
      | _ => False
    else lcE g p tt te d env P xs h3
def lLc (ti : LI) (p : Pat) (tt : LTt) (te : LT) (vs : List Nat) : LT := fun env h P => ti env h fun g xs h1 => lcE g p tt te h1.length (wipeE env vs) P xs (h1 ++ [.lst []])
theorem le_lc {elt tg iter : Expr} {ifs : List Expr} {scope : Scope} (own : List (Str × Nat)) {ti : LI} {p : Pat} {tt : LTt} {te : LT} (hc : X.calm = true) (hN : X.N.Nodup) (hi : LIt X tg iter ti) (ok : BlkOk X.N X.env.scope scope own)
    (hp : ∀ i ∈ Pat.slots p, i ∈ own.map (·.2))
    (hg : ∀ (s : Shared) (H : Hp) (C : Addr) (cl : List (Str × Addr)) (fp : List Addr), LG (X.blk s H scope (compEnvC scope cl C X.env) fp) tg p)
    (ht : ∀ (s : Shared) (H : Hp) (C : Addr) (cl : List (Str × Addr)) (fp : List Addr), LTs (X.blk s H scope (compEnvC scope cl C X.env) fp) ifs tt)
    (he : ∀ (s : Shared) (H : Hp) (C : Addr) (cl : List (Str × Addr)) (fp : List Addr), LE (X.blk s H scope (compEnvC scope cl C X.env) fp) elt te) (hs : ∀ x, foldedSetIterable iter X.env x = pure x := by intro _; rfl) :
    LE X (.ListComp elt [⟨tg, iter, ifs, 0⟩] scope pos) (lLc ti p tt te (own.map (·.2))) := by
  refine ⟨PE.imp (pe_lc (g := gP X.K p) (tt := upT X.K tt) (te := up X.K te) hc hN hi.pi ok (fun s H C cl fp => (hg s H C cl fp).pg) (fun s H C cl fp => (ht s H C cl fp).pts) (fun s H C cl fp => (he s H C cl fp).pe) hs) fun σ H Q ⟨m, env, h, P, at_, t1, k⟩ => ⟨m, env, h, _, at_, t1, fun g xs h1 p1 m1 H1 J E1 R1 sim D hD => ?_⟩⟩
  have E2 : Ex X.K m1 h1.length H1 (mput m1 h1.length D) (h1 ++ [EO.lst []]).length (upd H1 D (.lst [])) := Ex.new hD
  have R2 : RelH X.K (mput m1 h1.length D) (h1 ++ [EO.lst []]) (upd H1 D (.lst [])) := R1.new hD ⟨[], upd_same, .nil⟩
  refine ⟨fun i c H' => c = xs.length - i ∧ i ≤ xs.length ∧ ∃ m2 h2, Ex X.K m1 h1.length H1 m2 h2.length H' ∧ RelH X.K m2 h2 H' ∧ m2 h1.length = D ∧ h1.length < h2.length ∧ lcE g p tt te h1.length (wipeE env (own.map (·.2))) P (xs.drop i) h2,
    ⟨xs.length, by simp, Nat.zero_le _, _, _, E2, R2, mput_at, by simp, by simpa using p1⟩, ?_⟩
  rintro i c H' ⟨rfl, hi, m2, h2, E3, R3, eD, lD, q⟩
  by_cases hlt : i < xs.length
  · have ed : xs.drop i = xs[i] :: xs.drop (i + 1) := List.drop_eq_getElem_cons hlt
    rw [ed, lcE] at q
    obtain ⟨qg, q⟩ := q
    obtain ⟨s1, s2⟩ := sim i h2 m2 H' E3 R3 qg
    obtain ⟨go, yl⟩ := s1 xs[i] (List.getElem?_eq_getElem hlt)
    refine .inr ⟨go, fun H4 => ∃ m4 h4, Ex X.K m1 h1.length H1 m4 h4.length H4 ∧ RelH X.K m4 h4 H4 ∧ m4 h1.length = D ∧ h1.length < h4.length ∧ lcE g p tt te h1.length (wipeE env (own.map (·.2))) P (xs.drop (i + 1)) h4,
      fun H4 q4 => ⟨xs.length - (i + 1), by omega, rfl, hlt, q4⟩, fun v H4 y => ?_⟩
    obtain ⟨E4, R4, r4⟩ := yl v H4 y
    have E14 := (E1.trans E3).trans E4
    obtain ⟨env5, σ5, q5, f, N5, keep, len⟩ := bind_sim R4 ((at_.nm.ex E14).wipe (own.map (·.2))) r4 q
    refine f _ ⟨wipe_back (ss := Pat.slots p) keep hp (by rw [len, wipe_length]), m2, env5, h2, _, ⟨R4, N5⟩, q5, fun b h6 p6 m6 H6 E6 R6 => ?_⟩
    have E16 := (E3.trans E4).trans E6
    have lt2 := E6.le
    have eD6 : m6 h1.length = D := (E6.eq _ lD).trans eD
    cases b with
    | false =>
      dsimp only
      rw [if_neg Bool.false_ne_true] at p6 ⊢
      exact ⟨m6, h6, E16, R6, eD6, by omega, p6⟩
    | true =>
      dsimp only
      rw [if_pos rfl] at p6 ⊢
      refine ⟨m6, env5, h6, _, ⟨R6, N5.ex E6⟩, p6, fun w h7 p7 m7 H7 y7 E7 R7 r7 => ?_⟩
      have lt7 := E7.le
      have eD7 : m7 h1.length = D := (E7.eq _ (by omega)).trans eD6
      split at p7
      · rename_i acc e7
        obtain ⟨vs, a, r⟩ := R7.obj _ _ e7
        rw [eD7] at a
        refine ⟨vs, a, by rw [← r.length]; exact p7.1, ?_⟩
        have E8 := Ex.write (o := .lst (vs ++ [y7])) (e' := EO.lst (acc ++ [w])) R7 e7
        have R8 := R7.write (o := .lst (vs ++ [y7])) (e' := EO.lst (acc ++ [w])) e7 ⟨_, upd_same, (RelEs.ex E8 _ _ r).app (.one (RelE.ex E8 _ _ r7))⟩
        rw [eD7] at E8 R8
        exact ⟨m7, _, (E16.trans E7).trans E8, R8, eD7, by simp; omega, p7.2⟩
      · exact p7.elim
  · have e : i = xs.length := by omega
    subst e
    rw [List.drop_length, lcE] at q
    obtain ⟨_, s2⟩ := sim xs.length h2 m2 H' E3 R3 q.1
    refine .inl ⟨s2 rfl, k _ _ q.2 m2 H' _ (E1.trans E3) R3 (by rw [RelE]; exact ⟨lD, by rw [eD]⟩)⟩
end
end Y

namespace Y
open PySem PySem.Spec PyProof.Rows L2

abbrev LSp := List EV → EH → EK → Prop
def upSp (K : PySem.W.Frag) (sp : LSp) : List V → Hp → VK → Prop := fun vs H Q => ∃ m h evs P, RelH K m h H ∧ RelEs K m h.length H evs vs ∧ sp evs h P ∧ Kon K m h.length H P Q
structure FnG (P : Program) (w : World) (K : PySem.W.Frag) (mg : Str → Option Value) (base : Heap) (k : Nat) (f : Addr) (fd : FuncData) (ps : List Str) (sp : LSp) : Prop where
  len : ∀ evs h Q, sp evs h Q → evs.length = ps.length
  run : ∀ (A : Around) (outer : List Env) (s : Shared) (H : Hp) (args : Args) (us : List Value) (vs : List V) (Q : VK), Room k A → A.guards = some [] → Env0 P w K mg base A outer s H →
    BindsTo s fd args (ps.zip us) → Vals vs us → upSp K sp vs H Q → codeAny (model P w) A (.call (.ref f) args) (CR CX0 outer P w H s Q E0) s
def lCall (sp : LSp) (t : LA) : LT := fun env h P => t env h fun vs h1 => sp vs h1 P
section
variable {X : Cx} {k : Nat} {f : Addr} {fd : FuncData} {ps : List Str} {sp : LSp} {x : Str} {p pos : Pos} {e : Expr} {es : List Expr} {t : LA}
theorem upSp.len {K : PySem.W.Frag} {vs : List V} {H : Hp} {Q : VK} {n : Nat} (l : ∀ evs h Q, sp evs h Q → evs.length = n) (q : upSp K sp vs H Q) : vs.length = n := by
  obtain ⟨m, h, evs, P, R, r, s, _⟩ := q
  rw [← r.length]
  exact l _ _ _ s
theorem runG {pins : List (Addr × Obj)} {σ : L2.St} {H : Hp} {s : Shared} {Q : VK} {us : List Value} {vs : List V} (F : FnG X.prog X.w X.K X.mg X.base k f fd ps sp) (hr : Room k X.A) (hG : X.A.guards = some [])
    (hb : Binds X.K fd ps []) (I : Inv X pins σ H s) (r : Vals vs us) (q : upSp X.K sp vs H Q) : wpAny (model X.prog X.w) X.A (call (.ref f) us) (EP X pins σ Q) X.xe s := by
  have hl : us.length = ps.length := r.length.symm.trans (upSp.len F.len q)
  have b := hb s us I.kIn (by simpa using hl)
  rw [List.append_nil] at b
  refine wpAny_call (codeAny_mono (F.run X.A X.stack s H _ us vs Q hr hG I.env0 b r q) fun o s' ho => ?_)
  match o, ho with
  | .error _, ho => exact ho.elim
  | .ok (.ret u), ho => exact I.after ho
  | .ok .next, ho => exact ho.elim
  | .ok .brk, ho => exact ho.elim
  | .ok .cont, ho => exact ho.elim
theorem up_call {K : PySem.W.Frag} (σ : L2.St) (H : Hp) (Q : VK) (q : up K (lCall sp t) σ H Q) : upA K t σ H fun vs H1 => upSp K sp vs H1 Q := by
  obtain ⟨m, env, h, P, at_, t1, k⟩ := q
  exact ⟨m, env, h, _, at_, t1, fun vs h1 p1 m1 H1 xs E1 R1 r1 => ⟨m1, h1, vs, P, R1, r1, p1, k.ex E1⟩⟩
theorem le_call (F : FnG X.prog X.w X.K X.mg X.base k f fd ps sp) (hr : Room k X.A) (hG : X.A.guards = some []) (hg : Gl X x) (hm : X.mg x = some (.ref f)) (hk : PySem.W.keepIn X.K (.ref f) = true) (hb : Binds X.K fd ps [])
    (ha : LAs X (e :: es) t) (hdb : (x == ("__debug__" : Str)) = false := by decide) (he : starEach (e :: es) X.env = (false, eval e X.env) :: starEach es X.env := by rfl) (hpl : (backTo pos (starEach es X.env)).any (·.1) = false := by rfl) :
    LE X (.Call (.Name x p) (e :: es) [] pos) (lCall sp t) :=
  ⟨⟨fun pins s σ H Q I q => wpAny_Call_Name_kw (ld_glob I hg hm (PySem.W.callWith_K (h₀ := X.base) I.ok.mod.kin hk (thn (ha.pa.run pos pins s σ H _ I (up_call σ H Q q)) fun us s1 ⟨vs, H1, I1, r, q1⟩ =>
    ⟨I1.kIn, runG F hr hG hb I1 r q1⟩) he hpl) hdb)⟩⟩
end
def startE (N : List Str) (vs : List EV) : En := vs.map some ++ List.replicate (N.length - vs.length) none
theorem start_rel {K : PySem.W.Frag} {m : Nat → Addr} {n : Nat} {H : Hp} (N : List Str) {evs : List EV} {vs : List V} (r : RelEs K m n H evs vs) : RelN K m n H (startE N evs) (start N vs) := by
  have l := r.length
  unfold startE L2.start
  refine ⟨by simp [l], fun i v h => ?_⟩
  by_cases hi : i < evs.length
  · rw [List.getElem?_append_left (by simpa using hi), List.getElem?_map] at h
    obtain ⟨w, hw, e⟩ := Option.map_eq_some_iff.mp h
    cases e
    obtain ⟨x, hx, rx⟩ := r.at hw
    exact ⟨x, by rw [List.getElem?_append_left (by simp; omega), List.getElem?_map, hx]; rfl, rx⟩
  · rw [List.getElem?_append_right (by simpa using hi), List.getElem?_replicate] at h
    split at h <;> cases h
abbrev endsOf (Q : EK) : LEnds := { nx := fun _ h => Q .non h, rt := Q }
theorem fnG_of {P : Program} {w : World} {K : PySem.W.Frag} {mg : Str → Option Value} {base : Heap} {k : Nat} {f : Addr} {fd : FuncData} {name qual : Str} {params : Arguments} {body : List Stmt} {scope : Scope} {N ps : List Str} {sp : LSp}
    (F : FunD K name qual params body scope [] [] f fd) (Sc : FnScope N ps scope) (len : ∀ evs h Q, sp evs h Q → evs.length = ps.length)
    (hbody : ∀ (cdv : Value) (A : Around) (outer : List Env) (s : Shared) (H : Hp), Room k (A.deeper (envOfC qual scope s.heap.objs.size f cdv)) → (A.deeper (envOfC qual scope s.heap.objs.size f cdv)).guards = some [] →
      ∃ t, LSs (cxOf CX0 P w K mg base N qual scope f cdv A outer s H E0).nox body t ∧ ∀ evs h Q, sp evs h Q → t (endsOf Q) (startE N evs) h) :
    FnG P w K mg base (k + 1) f fd ps sp := by
  obtain ⟨oc, od, dV, kV, doc, pm, an, cdv, ct, osl, rfl, lk, hcd, _, _⟩ := F.ex
  refine ⟨len, fun A outer s H args us vs Q hr hG e0 hb r q => ?_⟩
  have hl : vs.length = ps.length := upSp.len len q
  have keepB : ∀ b o, base.get? b = some o → s.heap.get? b = some o := fun b o e => (e0.bs b o e).1
  have inK := e0.mod.kin.keeps keepB
  obtain ⟨t, ht, hq⟩ := hbody cdv A outer s H (hr.deeper _) hG
  refine codeAny_call_function hr.depth (inK _ _ lk) rfl Sc.co Sc.gen rfl (PySem.W.codeRec_of inK hcd) (hb _ _ _ _ ?_)
  refine wpAny_newFunctionEnv_cells Sc.kind (fun y hy => ?_) fun env he s1 x => ?_
  · rcases Sc.par y.1 (List.of_mem_zip hy).1 with z | z
    · exact .inl z
    · exact .inr ⟨z, PySem.W.cellsFrom_some _ _ _ (.inl z)⟩
  · subst he
    refine ⟨(e0.mod.nolimit.keeps keepB).keeps x.toInCall.keep, codeAny_func ?_⟩
    obtain ⟨m, h, evs, Pk, R, re, sq, kq⟩ := q
    have I := inv_start (CX := CX0) (P := P) (w := w) (K := K) (mg := mg) (base := base) (E := E0) Sc hr.hd e0 hl r x
    have run := ht.pss.nox.run [] s1 (start N vs) H { nx := fun _ H' => Q .non H', rt := Q } I ⟨m, startE N evs, h, endsOf Pk, ⟨R, start_rel N re⟩, hq evs h Pk sq, ⟨fun env' h' p m' H' σ' E' a' => kq _ _ p m' H' _ E' a'.hp (by rw [RelE]), kq, fun _ _ z => z.elim, fun _ _ z => z.elim⟩⟩
    refine wpAny_mono run (fun fl s' hs => ?_) fun e s' hs => hs
    match fl, hs with
    | .ret u, ⟨v, σ', H', J, rv, z⟩ => exact ⟨v, H', J.os, J.bare, J.base, J.hok, rv, z⟩
    | .next, ⟨σ', H', J, z⟩ => exact ⟨.non, H', J.os, J.bare, J.base, J.hok, rfl, z⟩
    | .brk, ⟨_, _, _, z⟩ => exact z.elim
    | .cont, ⟨_, _, _, z⟩ => exact z.elim
def spTop (n : Nat) : LSp := fun evs h Q => ∃ ns : List Int, evs = [.ref 0] ∧ h = [.frz (ns.map EV.int)] ∧ ns.length ≤ n ∧ ∀ h', Q (.bl true) h'
theorem rel_ints {K : PySem.W.Frag} {m : Nat → Addr} {n : Nat} {H : Hp} : ∀ ns : List Int, RelEs K m n H (ns.map EV.int) (ns.map V.int)
  | [] => .nil
  | i :: l => .cons (by rw [RelE]) (rel_ints l)
theorem up_top {K : PySem.W.Frag} {H : Hp} {a : Addr} {ns : List Int} {n : Nat} (hl : ns.length ≤ n) (hf : FrzL K H a (ns.map V.int)) : upSp K (spTop n) [.ref a] H fun v _ => v = .bl true := by
  refine ⟨fun _ => a, [.frz (ns.map EV.int)], [.ref 0], fun v _ => v = .bl true, ⟨fun r o hr => ?_, fun r q o u hr hq fo => ?_⟩, .one (by rw [RelE]; exact ⟨Nat.one_pos, rfl⟩), ⟨ns, rfl, rfl, hl, fun _ => rfl⟩, fun v h' e m' H' x E R r => ?_⟩
  · cases r with
    | zero =>
      cases hr
      exact ⟨_, hf, rel_ints ns⟩
    | succ r => simp at hr
  · cases r with
    | zero => cases hr; cases fo
    | succ r => simp at hr
  · subst e
    rw [RelE] at r
    exact r
section
variable {P : Program} {w : World} {K : PySem.W.Frag} {mg : Str → Option Value}
theorem topCall {mb : Str → Option Value} {k n : Nat} {fa a : Addr} {fd : FuncData} {x : Str} {s₁ : Shared} {vs : List Value} {ns : List Int} (KX : K.In s₁.heap) (hns : s₁.heap.Ns mainGlobals mg) (hb : s₁.heap.Ns builtinsNs mb)
    (hbb : ∀ x : Str, x ≠ "__name__" → mb x = bootBuiltins x) (hlim : s₁.heap.NoLimit) (hg : s₁.gens = #[]) (ha : s₁.heap.get? a = some { cls := .type "list", data := .seq vs.toArray }) (hi : IntsAre vs ns) (hl : ns.length ≤ n) (hn : n ≤ sizeLine) (hr : Room k callerA)
    (F : ∀ base : Heap, K.In base → base.Ns mainGlobals mg → FnG P w K mg base k fa fd [x] (spTop n)) (hbind : ∀ (s : Shared) (u : Value), BindsTo s fd ⟨[u], []⟩ [(x, u)]) :
    codeAny (model P w) callerA (.call (.ref fa) ⟨[.ref a], []⟩) (fun r s' => r = .ok (.ret (.bool true)) ∧ OldK s₁.heap s'.heap ∧ s'.os = s₁.os ∧ AllBare s'.gens) s₁ := by
  -- H: the script, locked, or nothing at all
  have go : ∀ H : Hp, (∀ b u, H b = some u → b = a ∧ u = .frz { cls := .type "list", data := .seq vs.toArray } (.lst (ns.map V.int))) → (∀ u, H a = some u → K.lookup a = none) → FrzL K H a (ns.map V.int) →
      codeAny (model P w) callerA (.call (.ref fa) ⟨[.ref a], []⟩) (fun r s' => r = .ok (.ret (.bool true)) ∧ OldK s₁.heap s'.heap ∧ s'.os = s₁.os ∧ AllBare s'.gens) s₁ := by
    intro H hH hK hf
    have hok : HOk P w H s₁.heap := fun b u e => by
      obtain ⟨rfl, rfl⟩ := hH b u e
      exact ⟨ha, by rw [List.length_map]; omega, vs, _, vals_ints hi, ha⟩
    have off : ∀ {b : Addr} {o : Obj}, s₁.heap.get? b = some o → (b = a → H a = none) → (hidT s₁.heap H).get? b = some o := fun {b o} e z => hidT_get e (by
      cases q : H b with
      | none => rfl
      | some u =>
        have e2 := (hH b u q).1
        rw [e2, z e2] at q
        cases q)
    have ns' : ∀ {b : Addr} {m : Str → Option Value}, s₁.heap.Ns b m → (hidT s₁.heap H).Ns b m := fun {b m} ⟨o, es, ep, e, d, r⟩ => ⟨o, es, ep, off e (fun z => by
      subst z
      rw [ha] at e
      cases e
      cases (show Data.seq vs.toArray _ = Data.dict es ep from d)), d, r⟩
    have inB : K.In (hidT s₁.heap H) := fun b o e => off (KX b o e) fun z => by
      subst z
      cases q : H b with
      | none => rfl
      | some u => rw [hK u q] at e; cases e
    obtain ⟨ml, l1, l2⟩ := hlim
    have md : Mod K mg (hidT s₁.heap H) := ⟨inB, ns' hns, ⟨mb, ns' hb, hbb⟩, ⟨ml, ns' l1, l2⟩⟩
    have e0 : Env0 P w K mg (hidT s₁.heap H) callerA [] s₁ H := ⟨rfl, md, fun b o e => of_hidT e, Nat.le_of_eq (hidT_size _ _), trivial, fun b hb => (nomatch hb), hok, .of_eq hg⟩
    refine codeAny_mono ((F _ inB (ns' hns)).run callerA [] s₁ H ⟨[.ref a], []⟩ [.ref a] [.ref a] (fun v _ => v = .bl true) hr rfl e0 (hbind s₁ (.ref a)) (.cons rfl .nil) (up_top hl hf)) fun r s' h => ?_
    match r, h with
    | .error _, h => exact h.elim
    | .ok .next, h => exact h.elim
    | .ok .brk, h => exact h.elim
    | .ok .cont, h => exact h.elim
    | .ok (.ret u), ⟨v, H', os, bare, un, hok', rv, q⟩ =>
      have q' : v = .bl true := q
      subst q'
      have hu : u = Value.bool true := rv
      subst hu
      refine ⟨rfl, OldK.of_keep fun b o e => ?_, os, bare⟩
      cases z : H b with
      | none => exact un.keep b o e z (fun y => nomatch y) (fun y => nomatch y)
      | some t =>
        obtain ⟨rfl, rfl⟩ := hH b t z
        have z2 := un.frzs b _ _ z
        obtain ⟨e2, _⟩ := hok' b _ z2
        rw [ha] at e
        cases e
        exact e2
  cases hk : K.lookup a with
  | some o =>
    have e := KX a o hk
    rw [ha] at e
    cases e
    exact go (fun _ => none) (fun b u z => nomatch z) (fun u z => nomatch z) (.inr ⟨_, vs.toArray, _, hk, rfl, rfl, rfl, by rw [List.size_toArray, hi.length]; omega, by simpa using vals_ints hi⟩)
  | none =>
    refine go (fun b => if b = a then some (.frz { cls := .type "list", data := .seq vs.toArray } (.lst (ns.map V.int))) else none) (fun b u z => ?_) (fun _ _ => hk) (.inl ⟨_, if_pos rfl⟩)
    by_cases hb : b = a
    · rw [show (if b = a then some (HO.frz { cls := .type "list", data := .seq vs.toArray } (.lst (ns.map V.int))) else none) = _ from if_pos hb] at z
      cases z
      exact ⟨hb, rfl⟩
    · rw [show (if b = a then some (HO.frz { cls := .type "list", data := .seq vs.toArray } (.lst (ns.map V.int))) else none) = _ from if_neg hb] at z
      cases z
end
theorem walkG {l : PySem.W.OpenLaw} {n k : Nat} {q : Program} {loose : List Str} {XP : (Str → Option Value) → Heap → Prop} {YP : World → Heap → Prop} {d : DefRec} {x : Str}
    (hn : l.most = some n) (hn2 : n ≤ sizeLine) (hdf : d.params.defaults = []) (hr : Room k callerA)
    (F : ∀ (w : World) (mg : Str → Option Value) (fa : Addr) (h : Heap), YP w h → h.Ns mainGlobals mg → mg d.name = some (.ref fa) →
      ∃ (K : PySem.W.Frag) (fd : FuncData), K.In h ∧ (∀ (s : Shared) (u : Value), BindsTo s fd ⟨[u], []⟩ [(x, u)]) ∧ ∀ base : Heap, K.In base → base.Ns mainGlobals mg → FnG l.prog w K mg base k fa fd [x] (spTop n)) :
    PySem.W.WalkO q loose XP YP l.row.toRowW d [] (fun f vs => PySem.call f vs) := by
  refine Att.attach_call hn hdf fun w s₀ s₁ mg mb fa o pm cd doc a vs ns G Y _ _ _ hmg hobj hints hlen hg => ?_
  obtain ⟨K, fd, KX, hb, hF⟩ := F w mg fa _ Y G.T.g hmg
  exact topCall KX G.T.g G.T.b G.T.builtins G.T.nolimit hg hobj hints hlen hn2 hr hF hb
end Y

namespace Y
open PySem PySem.Spec PyProof.Rows L2

section
variable {X : Cx}
theorem RelKV.length {K : PySem.W.Frag} {m : Nat → Addr} {n : Nat} {H : Hp} : ∀ {es : List (EV × EV)} {vs : List (L2.Key × V)}, RelKV K m n H es vs → es.length = vs.length
  | [], _, r => by rw [RelKV] at r; subst r; rfl
  | _ :: _, _, r => by
    rw [RelKV] at r
    obtain ⟨k, v, l, rfl, _, _, r⟩ := r
    simp [RelKV.length r]
def lenE : LC := fun vs h P => match vs with
  | [.str s] => s.length ≤ sizeLine ∧ P (.int s.length) h
  | [.tup xs] => P (.int xs.length) h
  | [.ktup xs] => P (.int xs.length) h
  | [.ref r] => match h[r]? with
    | some (.lst xs) => P (.int xs.length) h
    | some (.frz xs) => P (.int xs.length) h
    | some (.dic xs) => P (.int xs.length) h
    | _ => False
  | _ => False
theorem lc_len : LCallR X (.builtin "len") lenE := by
  refine ⟨_, CallR.or call_len_str (CallR.or call_len_seq call_lenD), ?_⟩
  intro m h H vs xs P Q R r0 q k
  unfold lenE at q
  split at q
  · obtain ⟨v, rfl, r⟩ := r0.one_inv
    rw [RelE] at r
    subst r
    exact .inl ⟨_, rfl, by rw [S_len]; exact q.1, by rw [S_len]; exact k.same R q.2 (by rw [RelE])⟩
  · obtain ⟨v, rfl, r⟩ := r0.one_inv
    rw [RelE] at r
    obtain ⟨a, vs, rfl, hs, r⟩ := r
    exact .inr (.inl ⟨a, vs, rfl, .inr (SqT.of hs), by rw [← r.length]; exact k.same R q (by rw [RelE])⟩)
  · obtain ⟨v, rfl, r⟩ := r0.one_inv
    rw [RelE] at r
    obtain ⟨a, vs, rfl, hs, r⟩ := r
    exact .inr (.inl ⟨a, vs, rfl, .inr hs, by rw [← r.length]; exact k.same R q (by rw [RelE])⟩)
  · obtain ⟨v, rfl, r⟩ := r0.one_inv
    rw [RelE] at r
    obtain ⟨_, rfl⟩ := r
    split at q
    · rename_i e
      obtain ⟨vs, a, r⟩ := R.obj _ _ e
      exact .inr (.inl ⟨_, vs, rfl, .inl (SqL.of a), by rw [← r.length]; exact k.same R q (by rw [RelE])⟩)
    · rename_i e
      obtain ⟨vs, a, r⟩ := R.obj _ _ e
      exact .inr (.inl ⟨_, vs, rfl, .inl a.sql, by rw [← r.length]; exact k.same R q (by rw [RelE])⟩)
    · rename_i e
      obtain ⟨vs, a, r⟩ := R.obj _ _ e
      exact .inr (.inr ⟨_, vs, rfl, a, by rw [← r.length]; exact k.same R q (by rw [RelE])⟩)
    · exact q.elim
  · exact q.elim
def absE : LC := fun vs h P => match vs with
  | [.int i] => P (.int i.natAbs) h
  | _ => False
theorem lc_abs : LCallR X (.builtin "abs") absE := by
  refine ⟨_, call_abs, ?_⟩
  intro m h H vs xs P Q R r0 q k
  unfold absE at q
  split at q
  · obtain ⟨v, rfl, r⟩ := r0.one_inv
    rw [RelE] at r
    subst r
    rename_i i
    refine ⟨i, rfl, ?_⟩
    have e : (if i < 0 then -i else i) = (i.natAbs : Int) := by split <;> omega
    rw [e]
    exact k.same R q (by rw [RelE])
  · exact q.elim
def intOf : LC := fun vs h P => match vs with
  | [.int i] => P (.int i) h
  | [.bl b] => P (.int (if b then 1 else 0)) h
  | _ => False
theorem lc_int : LCallR X (.type "int") intOf := by
  refine ⟨_, call_int1, ?_⟩
  intro m h H vs xs P Q R r0 q k
  unfold intOf at q
  split at q
  · obtain ⟨v, rfl, r⟩ := r0.one_inv
    rw [RelE] at r
    subst r
    exact .inl ⟨_, rfl, k.same R q (by rw [RelE])⟩
  · obtain ⟨v, rfl, r⟩ := r0.one_inv
    rw [RelE] at r
    subst r
    exact .inr ⟨_, rfl, k.same R q (by rw [RelE])⟩
  · exact q.elim
theorem RelEs.ints {K : PySem.W.Frag} {m : Nat → Addr} {n : Nat} {H : Hp} : ∀ {ns : List Int} {vs : List V}, RelEs K m n H (ns.map EV.int) vs → vs = ns.map V.int
  | [], _, r => by rw [List.map_nil, RelEs] at r; exact r
  | i :: l, _, r => by
    rw [List.map_cons, RelEs] at r
    obtain ⟨v, t, rfl, a, b⟩ := r
    rw [RelE] at a
    rw [a, RelEs.ints b]; rfl
def reprE : LC := fun vs h P => match vs with
  | [v] => ∃ d, Dat h 60 v d ∧ d.showable = true ∧ d.shown.length ≤ sizeLine ∧ P (.str d.shown.cps.toList) h
  | _ => False
def rRepr (K : PySem.W.Frag) : List V → Hp → VK → Prop := fun xs H Q => ∃ x d, xs = [x] ∧ Dp K H x d ∧ d.depth ≤ 60 ∧ d.plain = true ∧ d.showable = true ∧ d.shown.length ≤ sizeLine ∧ Q (.str d.shown) H
mutual
theorem plain_noDict : ∀ d : PyData, d.plain = true → d.hasDict = false
  | .none, _ => by simp only [PyData.hasDict]
  | .bool _, _ => by simp only [PyData.hasDict]
  | .int _, _ => by simp only [PyData.hasDict]
  | .str _, _ => by simp only [PyData.hasDict]
  | .list xs, h => by simp only [PyData.hasDict]; exact plain_noDicts xs (by simpa [PyData.plain] using h)
  | .tuple xs, h => by simp only [PyData.hasDict]; exact plain_noDicts xs (by simpa [PyData.plain] using h)
  | .dict _, h => by simp [PyData.plain] at h
theorem plain_noDicts : ∀ ds : List PyData, PyData.plainAll ds = true → PyData.hasDictAll ds = false
  | [], _ => by simp only [PyData.hasDictAll]
  | d :: ds, h => by
    have h' : d.plain = true ∧ PyData.plainAll ds = true := by simpa [PyData.plainAll] using h
    simp only [PyData.hasDictAll, plain_noDict d h'.1, plain_noDicts ds h'.2, Bool.or_self]
end
theorem call_reprD (hG : X.A.guards = some []) (hu : X.A.units + 64 < cLine) : CallR X (.builtin "repr") (rRepr X.K) := by
  intro pins s σ H xs us Q I r q
  obtain ⟨x, d, rfl, hd, dd, pd, sd, zd, q⟩ := q
  obtain ⟨u, rfl, ru⟩ := vals1 r
  cases hd with
  | non =>
    cases ru
    simp only [PyData.shown] at q
    exact PySem.P.repr_of_none ⟨.str _, H, I.tok _, ⟨_, rfl⟩, q⟩
  | bl b =>
    cases ru
    simp only [PyData.shown] at q
    exact PySem.P.repr_of_bool ⟨.str _, H, I.tok _, ⟨_, rfl⟩, q⟩
  | int i =>
    obtain ⟨t, rfl⟩ := ru
    simp only [PyData.shown] at q
    exact PySem.P.repr_of_int (by simpa [PyData.showable] using sd) ⟨.str _, H, I.tok _, ⟨_, rfl⟩, q⟩
  | str z =>
    obtain ⟨t, rfl⟩ := ru
    simp only [PyData.shown] at q zd
    exact PySem.P.repr_of_str ⟨.str _, H, I.tok _, ⟨_, rfl⟩, q⟩ zd
  | lst hs ha =>
    cases ru
    obtain ⟨as, rd⟩ := Dp.reads I _ _ _ (.lst hs ha) rfl
    exact PySem.repr_of_reads' rd sd (fun z => by rw [plain_noDict _ pd] at z; cases z) hG (by omega) (fun _ _ e => e) (fun h' u tk kk => ⟨.str _, H, I.kept kk, ⟨_, rfl⟩, q⟩) zd
  | tup hs ha =>
    cases ru
    obtain ⟨as, rd⟩ := Dp.reads I _ _ _ (.tup hs ha) rfl
    exact PySem.repr_of_reads' rd sd (fun z => by rw [plain_noDict _ pd] at z; cases z) hG (by omega) (fun _ _ e => e) (fun h' u tk kk => ⟨.str _, H, I.kept kk, ⟨_, rfl⟩, q⟩) zd
theorem lc_repr (hG : X.A.guards = some []) (hu : X.A.units + 64 < cLine) : LCallR X (.builtin "repr") reprE := by
  refine ⟨_, call_reprD hG hu, ?_⟩
  intro m h H vs xs P Q R r0 q k
  unfold reprE at q
  split at q
  · obtain ⟨v, rfl, r⟩ := r0.one_inv
    obtain ⟨d, dd, sd, zd, p⟩ := q
    exact ⟨v, d, rfl, Dat.dp R _ _ _ _ dd r, (Dat.dep _ _ _ dd).1, (Dat.dep _ _ _ dd).2, sd, zd, k.same R p (by rw [RelE])⟩
  · exact q.elim
def tupleOf : LC := fun vs h P => match vs with
  | [.tup xs] => P (.tup xs) h
  | [.ref r] => match h[r]? with
    | some (.lst xs) => P (.tup xs) h
    | some (.frz xs) => P (.tup xs) h
    | _ => False
  | _ => False
theorem lc_tuple : LCallR X (.type "tuple") tupleOf := by
  refine ⟨_, call_tuple_of, ?_⟩
  intro m h H vs xs P Q R r0 q k
  unfold tupleOf at q
  split at q
  · obtain ⟨v, rfl, r⟩ := r0.one_inv
    have r0 := r
    rw [RelE] at r
    obtain ⟨a, vs, rfl, hs, r⟩ := r
    exact ⟨a, vs, rfl, .inr ⟨(SqT.of hs), k.same R q r0⟩⟩
  · obtain ⟨v, rfl, r⟩ := r0.one_inv
    rw [RelE] at r
    obtain ⟨_, rfl⟩ := r
    split at q
    · rename_i e
      obtain ⟨vs, a, r⟩ := R.obj _ _ e
      exact ⟨_, vs, rfl, .inl ⟨SqL.of a, fun l hl => k.tup R q r hl⟩⟩
    · rename_i e
      obtain ⟨vs, a, r⟩ := R.obj _ _ e
      exact ⟨_, vs, rfl, .inl ⟨a.sql, fun l hl => k.tup R q r hl⟩⟩
    · exact q.elim
  · exact q.elim
end
def onList (v : EV) (h : EH) (f : Nat → List EV → Prop) : Prop := match v with
  | .ref r => match h[r]? with
    | some (.lst xs) => f r xs
    | _ => False
  | _ => False
section
variable {X : Cx}
theorem onList_sim {K : PySem.W.Frag} {m : Nat → Addr} {h : EH} {H : Hp} {v : EV} {x : V} {f : Nat → List EV → Prop} (R : RelH K m h H) (r : RelE K m h.length H v x) (q : onList v h f) : ∃ i xs vs, h[i]? = some (.lst xs) ∧ x = .ref (m i) ∧ H (m i) = some (.lst vs) ∧ RelEs K m h.length H xs vs ∧ f i xs := by
  unfold onList at q
  split at q
  · rw [RelE] at r
    obtain ⟨_, rfl⟩ := r
    split at q
    · rename_i e
      obtain ⟨vs, a, r⟩ := R.obj _ _ e
      exact ⟨_, _, vs, e, rfl, a, r, q⟩
    · exact q.elim
  · exact q.elim
theorem Kon.upd {K : PySem.W.Frag} {m : Nat → Addr} {H : Hp} {h : EH} {P : EK} {Q : VK} (k : Kon K m h.length H P Q) (R : RelH K m h H) {i : Nat} {xs ys : List EV} {us : List V} {v : EV} {x : V} (e : h[i]? = some (.lst xs)) (p : P v (h.set i (.lst ys))) (r : RelE K m h.length H v x) (ru : RelEs K m h.length H ys us) : Q x (upd H (m i) (.lst us)) := by
  have E : Ex K m h.length H m (h.set i (.lst ys)).length (L2.upd H (m i) (.lst us)) := Ex.write R e
  exact k _ _ p m _ _ E (R.write e ⟨us, upd_same, RelEs.ex E _ _ ru⟩) (RelE.ex E _ _ r)
def appendE : LM := fun v vs h P => match vs with
  | [y] => onList v h fun r xs => xs.length < sizeLine ∧ P .non (h.set r (.lst (xs ++ [y])))
  | _ => False
theorem lm_append {K : PySem.W.Frag} : LMl K "list" rAppend appendE := by
  intro m h H v x vs xs P Q R rx rv q k
  unfold appendE at q
  split at q
  · obtain ⟨y, rfl, ry⟩ := rv.one_inv
    obtain ⟨i, es, us, e, rfl, a, r, q⟩ := onList_sim R rx q
    exact ⟨_, us, y, rfl, rfl, a, by rw [← r.length]; exact q.1, k.upd R e q.2 (by rw [RelE]) (r.app (.one ry))⟩
  · exact q.elim
def insertE : LM := fun v vs h P => match vs with
  | [.int i, y] => onList v h fun r xs => xs.length < sizeLine ∧ 0 ≤ i ∧ i < 2 ^ 63 ∧ P .non (h.set r (.lst (xs.take i.toNat ++ [y] ++ xs.drop i.toNat)))
  | _ => False
theorem lm_insert {K : PySem.W.Frag} : LMl K "list" (fun x vs H Q => ∃ (l : Addr) (xs : List V) (i : Int) (y : V), x = .ref l ∧ vs = [.int i, y] ∧ H l = some (.lst xs) ∧ xs.length < sizeLine ∧ 0 ≤ i ∧ i < 2 ^ 63 ∧
    Q .non (upd H l (.lst (xs.take i.toNat ++ [y] ++ xs.drop i.toNat)))) insertE := by
  intro m h H v x vs xs P Q R rx rv q k
  unfold insertE at q
  split at q
  · obtain ⟨z, y, rfl, rz, ry⟩ := rv.two_inv
    rw [RelE] at rz
    subst rz
    obtain ⟨i, es, us, e, rfl, a, r, q⟩ := onList_sim R rx q
    exact ⟨_, us, _, y, rfl, rfl, a, by rw [← r.length]; exact q.1, q.2.1, q.2.2.1, k.upd R e q.2.2.2 (by rw [RelE]) (((r.take _).app (.one ry)).app (r.drop _))⟩
  · exact q.elim
def joinE : LM := fun v vs h P => match v, vs with
  | .str a, [.ref r] => match h[r]? with
    | some (.lst xs) => ∃ ys : List (List Nat), xs = ys.map EV.str ∧ (ys.map (·.length)).sum + ys.length * a.length ≤ 16777216 ∧ P (.str (TL.joinL a ys)) h
    | _ => False
  | _, _ => False
theorem RelEs.strs {K : PySem.W.Frag} {m : Nat → Addr} {n : Nat} {H : Hp} : ∀ {ns : List (List Nat)} {vs : List V}, RelEs K m n H (ns.map EV.str) vs → vs = (ns.map S).map V.str
  | [], _, r => by rw [List.map_nil, RelEs] at r; exact r
  | i :: l, _, r => by
    rw [List.map_cons, RelEs] at r
    obtain ⟨v, t, rfl, a, b⟩ := r
    rw [RelE] at a
    rw [a, RelEs.strs b]; rfl
theorem join_S (a : List Nat) (ys : List (List Nat)) : Txt.join (S a) (ys.map S) = S (TL.joinL a ys) := by
  refine TL.ext_tl ?_
  rw [TL.join_eq, TL.tl_join, List.map_map]
  have : (TL.tl ∘ S) = fun z => z := rfl
  rw [this, List.map_id']
theorem join_nil : ∀ ys : List (List Nat), TL.joinL [] ys = ys.flatten
  | [] => rfl
  | [p] => by simp [TL.joinL]
  | p :: q :: r => by
    rw [TL.joinL, join_nil (q :: r)]
    simp
theorem lm_join {K : PySem.W.Frag} : LMl K "str" (fun x xs H Q => ∃ a p, ∃ ys : List Str, x = .str a ∧ xs = [.ref p] ∧ (SqL K H p (ys.map V.str) ∨ SqT K H p (ys.map V.str)) ∧ (ys.map (·.length)).sum + ys.length * a.length ≤ 16777216 ∧ Q (.str (Txt.join a ys)) H) joinE := by
  intro m h H v x vs xs P Q R rx rv q k
  unfold joinE at q
  split at q
  · obtain ⟨y, rfl, ry⟩ := rv.one_inv
    rw [RelE] at rx
    rw [RelE] at ry
    obtain ⟨_, rfl⟩ := ry
    subst rx
    split at q
    · rename_i e
      obtain ⟨us, a, r⟩ := R.obj _ _ e
      obtain ⟨ys, rfl, z, p⟩ := q
      have := r.strs
      subst this
      refine ⟨_, _, ys.map S, rfl, rfl, .inl (SqL.of a), ?_, by rw [join_S]; exact k.same R p (by rw [RelE])⟩
      rw [S_len, List.length_map, List.map_map]
      have : ((fun x : Str => x.length) ∘ S) = fun z : List Nat => z.length := by funext z; exact S_len z
      rw [this]
      exact z
    · exact q.elim
  · exact q.elim
def repN {α : Type} (k : Int) (xs : List α) : List α := (List.replicate k.toNat xs).flatten
def mulE : LO := fun v w h P => match v, w with
  | .int i, .int j => PySem.IntMulOk i j ∧ P (.int (i * j)) h
  | .str s, .int k => (0 < k ∧ k < 2 ^ 24 ∧ s.length * k.toNat ≤ 1000000) ∧ P (.str (repN k s)) h
  | .tup xs, .int k => (xs ≠ [] ∧ 2 ≤ k ∧ k ≤ 1000 ∧ xs.length ≤ 1000) ∧ P (.tup (repN k xs)) h
  | .ref r, .int k => match h[r]? with
    | some (.lst xs) => (-(2 ^ 63) ≤ k ∧ k < 2 ^ 63 ∧ xs.length * k.toNat ≤ sizeLine) ∧ P (.ref h.length) (h ++ [.lst (repN k xs)])
    | _ => False
  | _, _ => False
theorem foldl_rep (x : Array Nat) : ∀ (k : Nat) (a : Array Nat), (List.replicate k x).foldl (· ++ ·) a = a ++ (List.replicate k x.toList).flatten.toArray
  | 0, a => by simp
  | k + 1, a => by
    rw [List.replicate_succ, List.foldl_cons, foldl_rep x k, List.replicate_succ, List.flatten_cons]
    apply Array.ext'
    simp
def rMulS : R2 := fun x y H Q => ∃ (s : List Nat) (k : Int), x = .str (S s) ∧ y = .int k ∧ (0 < k ∧ k < 2 ^ 24 ∧ s.length * k.toNat ≤ 1000000) ∧ Q (.str (S (repN k s))) H
theorem op_mulS : OpR X (binaryOp .Mult) rMulS := by
  intro pins s σ H x y v u Q I rx ry q
  obtain ⟨l, k, rfl, rfl, ⟨h0, h1, hz⟩, q⟩ := q
  obtain ⟨t, rfl⟩ := rx
  obtain ⟨t', rfl⟩ := ry
  have e : (S l).length = l.length := S_len l
  have fin : ∀ tk, EP X pins σ Q (.str (S (repN k l)) tk) { s with toks := tk + 1 } := fun tk => ⟨.str _, H, I.tok _, ⟨_, rfl⟩, q⟩
  refine PySem.P.mul_str ?_ (fun _ _ z => ?_) (fun _ _ => ?_) ?_
  · have a : ¬ k < -(2 ^ 63 : Int) := by omega
    have b : ¬ k ≥ 2 ^ 63 := by omega
    rw [decide_eq_false a, decide_eq_false b]; rfl
  · rw [e] at z
    have h2 : (l.length : Int) * k ≤ 1000000 := by
      have : ((l.length * k.toNat : Nat) : Int) ≤ 1000000 := by omega
      rw [Int.natCast_mul, Int.toNat_of_nonneg (by omega)] at this
      exact this
    have h3 : (l.length : Int) ≤ 1000000 := by
      have : (l.length : Int) * 1 ≤ (l.length : Int) * k := Int.mul_le_mul_of_nonneg_left (by omega) (by omega)
      omega
    have h4 : (2 ^ 63 - 1 : Int) / k ≥ (2 ^ 63 - 1 : Int) / 2 ^ 24 := by
      rw [ge_iff_le, Int.le_ediv_iff_mul_le (by omega)]
      have : (2 ^ 63 - 1 : Int) / 2 ^ 24 * k ≤ (2 ^ 63 - 1 : Int) / 2 ^ 24 * 2 ^ 24 := Int.mul_le_mul_of_nonneg_left (by omega) (by decide)
      have h5 : (2 ^ 63 - 1 : Int) / 2 ^ 24 * 2 ^ 24 ≤ 2 ^ 63 - 1 := by decide
      omega
    have h6 : (2 ^ 63 - 1 : Int) / 2 ^ 24 = 549755813887 := by decide
    omega
  · rw [e]
    unfold Builtin.Str.tooLong
    have : sizeLine = 16777216 := by decide
    rw [decide_eq_false]
    omega
  · rw [if_neg (by omega)]
    by_cases hk : (k == 1 || (S l).length == 0) = true
    · rw [if_pos hk]
      have e2 : repN k l = l := by
        rw [e, Bool.or_eq_true, beq_iff_eq, beq_iff_eq] at hk
        rcases hk with rfl | hk
        · simp [repN]
        · have : l = [] := List.length_eq_zero_iff.mp hk
          subst this
          simp [repN]
      rw [e2] at q
      exact ⟨.str _, H, I, ⟨_, rfl⟩, q⟩
    · rw [if_neg hk]
      have e2 : (⟨(List.replicate k.toNat (S l).cps).foldl (· ++ ·) #[]⟩ : Str) = S (repN k l) := by
        rw [foldl_rep]
        simp [repN]
      rw [e2]
      exact ⟨by
        have e3 : (S (repN k l)).length = l.length * k.toNat := by
          rw [S_len, repN, List.length_flatten, List.map_replicate, List.sum_replicate_nat]
          exact Nat.mul_comm _ _
        rw [e3]
        have : sizeLine = 16777216 := by decide
        omega, fin _⟩
theorem op_mulO : OpR X (binaryOp .Mult) (rI PySem.IntMulOk fun i j => .int (i * j)) := opI fun _ _ _ _ _ _ _ hc q => mul_int q hc
theorem lo_mul : LOpR X (binaryOp .Mult) mulE := by
  refine ⟨_, OpR.or op_mulO (OpR.or op_mulS (OpR.or op_repT op_rep)), ?_⟩
  intro m h H v w x y P Q R rx ry q k
  unfold mulE at q
  split at q
  · rw [RelE] at rx
    rw [RelE] at ry
    exact .inl ⟨_, _, rx, ry, q.1, k.same R q.2 (by rw [RelE])⟩
  · rw [RelE] at rx
    rw [RelE] at ry
    exact .inr (.inl ⟨_, _, rx, ry, q.1, k.same R q.2 (by rw [RelE])⟩)
  · rw [RelE] at rx
    rw [RelE] at ry
    obtain ⟨a, us, rfl, hs, r⟩ := rx
    subst ry
    refine .inr (.inr (.inl ⟨a, _, us, rfl, rfl, (SqT.of hs), ?_, q.1.2.1, q.1.2.2.1, by rw [← r.length]; exact q.1.2.2.2, fun p hp => k.tup R q.2 ?_ hp⟩))
    · rintro rfl
      have := r.length
      exact q.1.1 (List.length_eq_zero_iff.mp this)
    · unfold repN
      generalize Int.toNat _ = n
      induction n with
      | zero => exact .nil
      | succ n ih => rw [List.replicate_succ, List.replicate_succ, List.flatten_cons, List.flatten_cons]; exact r.app ih
  · rw [RelE] at rx
    rw [RelE] at ry
    obtain ⟨_, rfl⟩ := rx
    subst ry
    split at q
    · rename_i e
      obtain ⟨us, a, r⟩ := R.obj _ _ e
      refine .inr (.inr (.inr ⟨_, _, us, rfl, rfl, a, q.1.1, q.1.2.1, by rw [← r.length]; exact q.1.2.2, fun p hp => k.lst R q.2 ?_ hp⟩))
      unfold repN
      generalize Int.toNat _ = n
      induction n with
      | zero => exact .nil
      | succ n ih => rw [List.replicate_succ, List.replicate_succ, List.flatten_cons, List.flatten_cons]; exact r.app ih
    · exact q.elim
  · exact q.elim
def KTab (K : PySem.W.Frag) (w : World) (a : Addr) (tb : List (List Nat × List Nat)) : Prop := ∀ p ∈ tb, KDct K w a (S p.1) (.str (S p.2))
def kdE (tb : List (List Nat × List Nat)) (a : Addr) : LO := fun v w h P => match v, w with
  | .adr b, .str s => b = a ∧ match tb.lookup s with
    | some z => P (.str z) h
    | none => False
  | _, _ => False
theorem lookup_mem {α β : Type} [BEq α] [LawfulBEq α] {l : List (α × β)} {a : α} {b : β} (h : l.lookup a = some b) : (a, b) ∈ l := by
  induction l with
  | nil => cases h
  | cons p l ih =>
    obtain ⟨x, y⟩ := p
    rw [List.lookup_cons] at h
    cases e : a == x with
    | true =>
      rw [e] at h
      cases h
      rw [beq_iff_eq.mp e]
      exact List.mem_cons_self
    | false =>
      rw [e] at h
      exact List.mem_cons_of_mem _ (ih h)
theorem lix_kd {a : Addr} {tb : List (List Nat × List Nat)} (T : KTab X.K X.w a tb) : LIxR X (kdE tb a) := by
  refine ⟨_, ix_kdict, ?_⟩
  intro m h H v w x y P Q R rx ry q k
  unfold kdE at q
  split at q
  · rw [RelE] at rx
    rw [RelE] at ry
    subst rx ry
    obtain ⟨rfl, q⟩ := q
    split at q
    · rename_i e
      exact ⟨_, _, _, rfl, rfl, T _ (lookup_mem e), k.same R q (by rw [RelE])⟩
    · exact q.elim
  · exact q.elim
end
end Y

namespace Y
open PySem PySem.Spec PyProof.Rows L2

inductive Sc where
  | lst (a : Addr) | tup (a : Addr) | txt (x : Str)
def Sc.val : Sc → V
  | .lst a => .ref a
  | .tup a => .ref a
  | .txt x => .str x
def Sc.is (K : PySem.W.Frag) (H : Hp) : Sc → List V → Prop
  | .lst a, xs => SqL K H a xs
  | .tup a, xs => SqT K H a xs
  | .txt x, xs => xs = x.cps.toList.map fun c => V.str ⟨#[c]⟩
def Sc.cell : Sc → List Addr
  | .lst a => [a]
  | .tup a => [a]
  | .txt _ => []
def Sc.st (it : Addr) (i : Nat) (h : Heap) : Sc → Prop
  | .lst a => h.IsListIter it a i
  | .tup a => h.IsTupleIter it a i
  | .txt x => ∃ t, h.IsStrIter it (strIterType x) x t i
theorem Sc.st_obj {it : Addr} {i : Nat} {h : Heap} : ∀ {sc : Sc}, sc.st it i h → ∃ o, h.get? it = some o ∧ ∀ v, o.data ≠ .cell v
  | .lst _, ⟨o, e, _, d⟩ => ⟨o, e, fun v q => by rw [d] at q; cases q⟩
  | .tup _, ⟨o, e, _, d⟩ => ⟨o, e, fun v q => by rw [d] at q; cases q⟩
  | .txt _, ⟨t, o, e, _, d⟩ => ⟨o, e, fun v q => by rw [d] at q; cases q⟩
theorem Sc.st_at {it : Addr} {i : Nat} {h h' : Heap} (k : ∀ o, h.get? it = some o → h'.get? it = some o) : ∀ {sc : Sc}, sc.st it i h → sc.st it i h'
  | .lst _, ⟨o, e, r⟩ => ⟨o, k o e, r⟩
  | .tup _, ⟨o, e, r⟩ => ⟨o, k o e, r⟩
  | .txt _, ⟨t, o, e, r⟩ => ⟨t, o, k o e, r⟩
section
variable {X : Cx} {pins : List (Addr × Obj)} {s : Shared} {σ : L2.St} {H : Hp}
theorem Vals.back {xs : List V} {us : List Value} {i : Nat} {u : Value} (r : Vals xs us) (e : us[i]? = some u) : ∃ x, xs[i]? = some x ∧ RelV x u := by
  have hl := (List.getElem?_eq_some_iff.mp e).1
  have l := r.length
  have h2 : xs[i]? = some xs[i] := List.getElem?_eq_getElem (by omega)
  obtain ⟨w, hw, rw'⟩ := r.get h2
  rw [e] at hw
  cases hw
  exact ⟨_, h2, rw'⟩
theorem Sc.draws {sc : Sc} {xs : List V} {it : Addr} {i : Nat} (I : Inv X pins σ H s) (hc : X.calm = true) (hq : sc.is X.K H xs) (hn : it ∉ sc.cell) (st : sc.st it i s.heap) :
    ∃ P St, Draws X.prog X.w X.A.in1 it (it :: sc.cell) xs.length P St ∧ St i s.heap ∧ (∀ j u, P j u → ∃ v, xs[j]? = some v ∧ RelV v u) ∧ ∀ j h, St j h → sc.st it j h := by
  have hh : X.A.in1.handled = none := I.ok.hd hc
  match sc, hq, hn, st with
  | .lst a, hq, hn, st =>
    obtain ⟨its, rv, p, hz⟩ := I.list hq
    rw [show xs.length = its.toArray.size by simpa using rv.length]
    exact ⟨_, _, Draws.list hh it a (fun z => hn (by simp [Sc.cell, z])) its.toArray, ⟨st, p.isList⟩, fun j u e => Vals.back rv (by simpa using e), fun j h e => e.1⟩
  | .tup a, hq, hn, st =>
    obtain ⟨its, rv, p, hz⟩ := I.tuple hq
    rw [show xs.length = its.toArray.size by simpa using rv.length]
    exact ⟨_, _, Draws.tuple hh it a (fun z => hn (by simp [Sc.cell, z])) its.toArray, ⟨st, p⟩, fun j u e => Vals.back rv (by simpa using e), fun j h e => e.1⟩
  | .txt x, hq, hn, ⟨t, st⟩ =>
    have hq' : xs = x.cps.toList.map fun c => V.str ⟨#[c]⟩ := hq
    subst hq'
    rw [show (x.cps.toList.map fun c => V.str ⟨#[c]⟩).length = x.cps.size by simp]
    exact ⟨_, _, Draws.text hh it x t, st, fun j u ⟨c, t', e, eu⟩ => ⟨_, by rw [List.getElem?_map, Array.getElem?_toList, e]; rfl, show RelV (.str ⟨#[c]⟩) u from ⟨t', eu⟩⟩, fun j h e => ⟨t, e⟩⟩
theorem Sc.is_inj {sc : Sc} {xs ys : List V} (I : Inv X pins σ H s) (h : sc.is X.K H xs) (h' : sc.is X.K H ys) : xs = ys := by
  match sc, h, h' with
  | .lst a, h, h' => exact I.list_inj h h'
  | .tup a, h, h' => exact I.tuple_inj h h'
  | .txt a, h, h' => exact Eq.trans h (Eq.symm h')
end
def ItN (K : PySem.W.Frag) (a : Sc) (k : Int) : It :=
  ⟨fun i H => ∃ (xs : List V) (x : V), a.is K H xs ∧ xs[i]? = some x,
    fun i H v H' => ∃ T x, v = .ref T ∧ H T = none ∧ H' = upd H T (.tup [.int (k + (i : Nat)), x]) ∧ ∀ xs, a.is K H xs → xs[i]? = some x,
    fun i H => ∃ xs : List V, a.is K H xs ∧ i = xs.length⟩
section
variable {P : Program} {w : World} {K : PySem.W.Frag} {elts : List Expr} {kk : Nat} {tpos : Pos}
theorem turnN {a : Sc} {k : Int} {e it : Addr} (hne : e ≠ it) (hef : e ∉ it :: a.cell) (na : it ∉ a.cell) :
    Turn P w K (.Tuple elts kk tpos) (ItN K a k) [e, it] e (fun i h => (∃ old, IsEnum h e it (k + ((i : Nat) : Int)) old) ∧ a.st it i h) where
  mem := by simp
  obj := fun i h st b hb => by
    obtain ⟨⟨old, he⟩, s1⟩ := st
    have e' : b = e ∨ b = it := by simpa using hb
    rcases e' with z | z
    · rw [z]; exact ⟨_, he, fun v q => nomatch q⟩
    · rw [z]; exact Sc.st_obj s1
  keep := fun i h h' st k => let ⟨⟨old, he⟩, hi⟩ := st; ⟨⟨old, k e (by simp) _ he⟩, Sc.st_at (fun o q => k it (by simp) o q) hi⟩
  item := by
    intro X hP hw hK hc i pins s σ H E I hf st hg
    subst hP hw hK
    obtain ⟨⟨old, he⟩, s1⟩ := st
    obtain ⟨xs, x, hq, hx⟩ := hg
    obtain ⟨P1, St1, D1, t1, p1, b1⟩ := Sc.draws I hc hq na s1
    have lx := (List.getElem?_eq_some_iff.mp hx).1
    have hel : e < s.heap.objs.size := Heap.lt_size he
    refine wpAny_pyNext_enum_itemC D1 he t1 lx hne hef fun u h' tk hu ho t1' hT hsz hk => ?_
    obtain ⟨x', hx', ru⟩ := p1 _ _ hu
    rw [hx] at hx'
    cases hx'
    refine ⟨_, rfl, wpAny_letOwnedTupleGo_enum (s := { s with heap := h', toks := tk + 1 }) ho fun h'' he' sb => ?_⟩
    have hT2 : h''.get? s.heap.objs.size = some { cls := .type "tuple", data := .seq #[.int (k + (i : Nat)) tk, u] } := (sb.2 _ (Nat.ne_of_gt hel)).trans hT
    have new : ObjOk X.prog X.w (upd H s.heap.objs.size (.tup [.int (k + (i : Nat)), x])) h'' s.heap.objs.size (.tup [.int (k + (i : Nat)), x]) :=
      ⟨by show 2 ≤ sizeLine; decide, [.int (k + (i : Nat)) tk, u], .cons ⟨_, rfl⟩ (.cons ru .nil), ⟨_, hT2, rfl, _, rfl⟩⟩
    have I1 : Inv X pins σ (upd H s.heap.objs.size (.tup [.int (k + (i : Nat)), x])) { s with heap := h'', toks := tk + 1 } :=
      I.turnedNew (ch := [e, it]) (fun b ob hb q => (sb.2 b (fun z => hb (by simp [z]))).trans (hk b ob (fun z => hb (by simp [z])) (fun z => hb (by simp [z])) q)) hf (Nat.le_refl _) new
    refine ⟨.ref s.heap.objs.size, _, I1, rfl, ⟨_, x, rfl, I.hok.fresh (Nat.le_refl _), rfl, fun ys hy => by rw [Sc.is_inj I hy hq]; exact hx⟩, ⟨⟨u, ?_⟩, Sc.st_at (fun o q => (sb.2 it (Ne.symm hne)).trans q) (b1 _ _ t1')⟩, fun b hb => ?_⟩
    · have e1 : k + ((i + 1 : Nat) : Int) = k + (i : Int) + 1 := by omega
      rw [e1]; exact he'
    · have hb' : b < s.heap.objs.size := by
        have e' : b = e ∨ b = it := by simpa using hb
        rcases e' with z | z
        · rw [z]; exact hel
        · rw [z]; obtain ⟨_, e1, _⟩ := Sc.st_obj s1; exact Heap.lt_size e1
      rw [upd_ne (Nat.ne_of_lt hb')]
      exact (hf b hb).1
  done := by
    intro X hP hw hK hc i pins s σ H E I hf st hg
    subst hP hw hK
    obtain ⟨⟨old, he⟩, s1⟩ := st
    obtain ⟨xs, hq, hx⟩ := hg
    obtain ⟨P1, St1, D1, t1, p1, b1⟩ := Sc.draws I hc hq na s1
    subst hx
    obtain ⟨f0, f1, f2, f3, f4, f5⟩ := hf it (by simp)
    exact wpAny_pyNext_enum_endD D1 he t1 fun h' eb => ⟨rfl, I.turned (t' := s.toks) (fun b o hb q => eb b o hb q) f0 f1 f3 f4 f5⟩
  self := fun A i s Q E st h => let ⟨⟨_, he⟩, _⟩ := st; wpAny_pyIter_enum he h
end
section
variable {X : Cx} {e e2 : Expr} {ta : TA} {p pos tpos : Pos} {elts : List Expr} {kk : Nat}
end
def srcE (v : EV) (h : EH) (P : (EH → Prop) → List EV → Prop) : Prop := match v with
  | .ref r => match h[r]? with
    | some (.lst xs) => P (fun h' => h'[r]? = some (.lst xs)) xs
    | some (.frz xs) => P (fun h' => h'[r]? = some (.frz xs)) xs
    | _ => False
  | .tup xs => P lTrue xs
  | .ktup xs => P lTrue xs
  | .str s => P lTrue (s.map fun c => .str [c])
  | _ => False
def lZip (ta : LA) : LI := fun env h P => ta env h fun vs h1 => match vs with
  | [x, y] => srcE x h1 fun g xs => srcE y h1 fun g2 ys => P (fun h' => g h' ∧ g2 h') (List.zipWith (fun a b => EV.tup [a, b]) xs ys) h1
  | _ => False
theorem rel_pair {K : PySem.W.Frag} {m : Nat → Addr} {h : EH} {H : Hp} {a b : EV} {x y : V} {T : Addr} (R : RelH K m h H) (hT : H T = none) (r1 : RelE K m h.length H a x) (r2 : RelE K m h.length H b y) :
    Ex K m h.length H m h.length (upd H T (.tup [x, y])) ∧ RelH K m h (upd H T (.tup [x, y])) ∧ RelE K m h.length (upd H T (.tup [x, y])) (.tup [a, b]) (.ref T) := by
  have E : Ex K m h.length H m h.length (upd H T (.tup [x, y])) := Ex.tup1 hT
  refine ⟨E, R.tup hT, ?_⟩
  rw [RelE]
  exact ⟨T, [x, y], rfl, upd_same, .cons (RelE.ex E _ _ r1) (.one (RelE.ex E _ _ r2))⟩
theorem zw_at {α β γ : Type} {f : α → β → γ} {xs : List α} {ys : List β} {i : Nat} {z : γ} (e : (List.zipWith f xs ys)[i]? = some z) : ∃ a b, xs[i]? = some a ∧ ys[i]? = some b ∧ z = f a b := by
  rw [List.getElem?_zipWith] at e
  split at e
  · rename_i a b ha hb
    cases e
    exact ⟨a, b, ha, hb, rfl⟩
  · cases e
section
variable {X : Cx} {e e2 : Expr} {ta : LA} {p pos tpos : Pos} {elts : List Expr} {kk : Nat}
end
end Y

namespace Y
open PySem PySem.Spec PyProof.Rows L2

def lNeg (ta : LT) : LT := fun env h P => ta env h fun v h1 => match v with
  | .int i => P (.int (-i)) h1
  | _ => False
theorem le_neg {X : Cx} {a : Expr} {ta : LT} {pos : Pos} (ha : LE X a ta) : LE X (.UnaryOp .USub a pos) (lNeg ta) := by
  refine ⟨PE.imp (pe_un un_neg ha.pe) fun σ H Q ⟨m, env, h, P, at_, t1, k⟩ => ⟨m, env, h, _, at_, t1, fun v h1 p1 m1 H1 x E1 R1 r1 => ?_⟩⟩
  cases v with
  | int i =>
    rw [RelE] at r1
    exact ⟨i, r1, k _ _ p1 m1 H1 _ E1 R1 (by rw [RelE])⟩
  | _ => exact p1.elim
theorem loop_ind {g : EH → Prop} {p : Pat} {tb : LS} {D : LEnds} (I : List EV → En → EH → Prop)
    (stop : ∀ env h, I [] env h → g h ∧ D.nx env h)
    (turn : ∀ x xs env h (k : En → EH → Prop), I (x :: xs) env h → (∀ env' h', I xs env' h' → k env' h') → g h ∧ lBind h p x env fun env2 => tb { D with nx := k, ct := k, bk := D.nx } env2 h) :
    ∀ xs env h, I xs env h → loopE g p tb D xs env h
  | [], env, h, i => by rw [loopE]; exact stop env h i
  | x :: xs, env, h, i => by rw [loopE]; exact turn x xs env h _ i fun env' h' i' => loop_ind I stop turn xs env' h' i'
theorem lc_ind {g : EH → Prop} {p : Pat} {tt : LTt} {te : LT} {d : Nat} {env : En} {P : EK} (I : List EV → List EV → EH → Prop)
    (stop : ∀ acc h, I [] acc h → h[d]? = some (.lst acc) → g h ∧ P (.ref d) h)
    (turn : ∀ x xs acc h (ky : EK) (kn : EH → Prop), I (x :: xs) acc h → h[d]? = some (.lst acc) →
      (∀ y h', h'[d]? = some (.lst acc) → acc.length < sizeLine → I xs (acc ++ [y]) (h'.set d (.lst (acc ++ [y]))) → ky y h') → (∀ h', h'[d]? = some (.lst acc) → I xs acc h' → kn h') →
      g h ∧ lBind h p x env fun env2 => tt env2 h fun b h3 => if b = true then te env2 h3 ky else kn h3) :
    ∀ xs acc h, h[d]? = some (.lst acc) → I xs acc h → lcE g p tt te d env P xs h
  | [], acc, h, e, i => by rw [lcE]; exact stop acc h i e
  | x :: xs, acc, h, e, i => by
    rw [lcE]
    refine turn x xs acc h _ _ i e (fun y h' e' hl i' => ?_) fun h' e' i' => lc_ind I stop turn xs acc h' e' i'
    rw [e']
    refine ⟨hl, lc_ind I stop turn xs _ _ ?_ i'⟩
    exact List.getElem?_set_self (List.getElem?_eq_some_iff.mp e').1
theorem new_at {h : EH} {o : EO} : (h ++ [o])[h.length]? = some o := by simp
theorem new_set {h : EH} {o u : EO} : (h ++ [o]).set h.length u = h ++ [u] := by simp
theorem lc_plain {g : EH → Prop} {p : Pat} {tt : LTt} {te : LT} {env : En} {P : EK} {h : EH} (f : EV → Option EV) (xs : List EV) (hl : xs.length ≤ sizeLine) (hg : ∀ acc, g (h ++ [.lst acc]))
    (step : ∀ x ∈ xs, ∀ acc (ky : EK) (kn : EH → Prop), (∀ y, f x = some y → ky y (h ++ [.lst acc])) → (f x = none → kn (h ++ [.lst acc])) →
      lBind (h ++ [.lst acc]) p x env fun env2 => tt env2 (h ++ [.lst acc]) fun b h3 => if b = true then te env2 h3 ky else kn h3)
    (fin : P (.ref h.length) (h ++ [.lst (xs.filterMap f)])) : lcE g p tt te h.length env P xs (h ++ [.lst []]) := by
  have key : ∀ ys acc, (∀ x ∈ ys, x ∈ xs) → acc.length + ys.length ≤ xs.length → acc ++ ys.filterMap f = xs.filterMap f → lcE g p tt te h.length env P ys (h ++ [.lst acc]) := by
    intro ys
    induction ys with
    | nil =>
      intro acc _ _ e
      rw [lcE]
      rw [List.filterMap_nil, List.append_nil] at e
      exact ⟨hg _, by rw [e]; exact fin⟩
    | cons x ys ih =>
      intro acc hm hz e
      rw [lcE]
      refine ⟨hg _, step x (hm x (by simp)) acc _ _ (fun y hy => ?_) fun hy => ?_⟩
      · rw [new_at]
        simp only [List.length_cons] at hz
        refine ⟨by omega, ?_⟩
        rw [new_set]
        refine ih _ (fun z hz' => hm z (List.mem_cons_of_mem _ hz')) (by simp; omega) ?_
        rw [List.filterMap_cons, hy] at e
        simpa using e
      · simp only [List.length_cons] at hz
        refine ih _ (fun z hz' => hm z (List.mem_cons_of_mem _ hz')) (by omega) ?_
        rw [List.filterMap_cons, hy] at e
        exact e
  exact key xs [] (fun _ h => h) (by simp) (by simp)
theorem lc_map {g : EH → Prop} {p : Pat} {te : LT} {env : En} {P : EK} {h : EH} (f : EV → EV) (xs : List EV) (hl : xs.length ≤ sizeLine) (hg : ∀ acc, g (h ++ [.lst acc]))
    (step : ∀ x ∈ xs, ∀ acc (ky : EK), ky (f x) (h ++ [.lst acc]) → lBind (h ++ [.lst acc]) p x env fun env2 => te env2 (h ++ [.lst acc]) ky)
    (fin : P (.ref h.length) (h ++ [.lst (xs.map f)])) : lcE g p lYes te h.length env P xs (h ++ [.lst []]) := by
  refine lc_plain (fun x => some (f x)) xs hl hg (fun x hx acc ky kn hy _ => ?_) (by rw [List.filterMap_eq_map']; exact fin)
  have q := step x hx acc ky (hy _ rfl)
  unfold lBind at q ⊢
  split at q
  · rename_i e
    exact q
  · exact q
def Keep (b : Nat → Prop) (h h' : EH) : Prop := h.length ≤ h'.length ∧ ∀ r o, h[r]? = some o → ¬ b r → h'[r]? = some o
theorem Keep.refl {b : Nat → Prop} {h : EH} : Keep b h h := ⟨Nat.le_refl _, fun _ _ e _ => e⟩
theorem Keep.trans {b : Nat → Prop} {h h' h2 : EH} (x : Keep b h h') (y : Keep b h' h2) : Keep b h h2 := ⟨Nat.le_trans x.1 y.1, fun r o e n => y.2 r o (x.2 r o e n) n⟩
theorem Keep.app {b : Nat → Prop} {h : EH} (g : EH) : Keep b h (h ++ g) := ⟨by simp, fun r o e _ => by rw [List.getElem?_append_left (List.getElem?_eq_some_iff.mp e).1]; exact e⟩
theorem Keep.set {b : Nat → Prop} {h : EH} {r : Nat} {o : EO} (hb : b r) : Keep b h (h.set r o) := ⟨by simp, fun q u e n => by
  rw [List.getElem?_set_ne (fun z => n (by rw [← z]; exact hb))]; exact e⟩
theorem Keep.fresh {b : Nat → Prop} {h h' : EH} {r : Nat} {o : EO} (x : Keep b h h') (hr : h.length ≤ r) : Keep b h (h'.set r o) := ⟨by simpa using x.1, fun q u e n => by
  have hq := (List.getElem?_eq_some_iff.mp e).1
  rw [List.getElem?_set_ne (by omega)]; exact x.2 q u e n⟩
theorem Keep.weak {b c : Nat → Prop} {h h' : EH} (x : Keep b h h') (w : ∀ r, b r → c r) : Keep c h h' := ⟨x.1, fun r o e n => x.2 r o e fun z => n (w r z)⟩
def no1 : Nat → Prop := fun _ => False
theorem Keep.all {c : Nat → Prop} {h h' : EH} (x : Keep no1 h h') : Keep c h h' := x.weak fun _ z => z.elim
theorem Keep.at {h h' : EH} {r : Nat} {o : EO} (x : Keep no1 h h') (e : h[r]? = some o) : h'[r]? = some o := x.2 r o e fun z => z
theorem lt_of_at {h : EH} {r : Nat} {o : EO} (e : h[r]? = some o) : r < h.length := (List.getElem?_eq_some_iff.mp e).1
theorem app_at {h : EH} {r : Nat} {o : EO} (e : h[r]? = some o) (g : EH) : (h ++ g)[r]? = some o := by rw [List.getElem?_append_left (lt_of_at e)]; exact e
def DS (h : EH) (n k : Nat) (v : EV) (d : PyData) : Prop := Dat h n v d ∧ d.showable = true ∧ d.leavesShort 13 = true ∧ d.weight ≤ k
def DSs (h : EH) (n k : Nat) (vs : List EV) (ds : List PyData) : Prop := Dats h n vs ds ∧ PyData.showableAll ds = true ∧ PyData.leavesShortAll 13 ds = true ∧ PyData.weightAll ds ≤ k
section
variable {h : EH} {n k j : Nat}
theorem DS.non : DS h n k .non .none := ⟨.non, by simp [PyData.showable], by simp [PyData.leavesShort], by simp [PyData.weight]⟩
theorem DS.bl {b : Bool} : DS h n k (.bl b) (.bool b) := ⟨.bl b, by simp [PyData.showable], by simp [PyData.leavesShort], by simp [PyData.weight]⟩
theorem log_le {a k : Nat} (h : a < 2 ^ k) (h0 : 0 < k) : a.log2 < k := by
  by_cases z : a = 0
  · subst z; simpa using h0
  · exact (Nat.log2_lt z).mpr h
theorem DS.int {i : Int} (hi : i.natAbs < 10 ^ 12) (hk : 41 ≤ k) : DS h n k (.int i) (.int i) := by
  have l : i.natAbs.log2 < 40 := log_le (Nat.lt_trans hi (by decide)) (by decide)
  refine ⟨.int i, ?_, ?_, ?_⟩
  · rw [PyData.showable.eq_4]
    exact decide_eq_true (by omega)
  · simp only [PyData.leavesShort]
    exact decide_eq_true (PyData.shown_int_le hi)
  · simp only [PyData.weight]
    split <;> omega
theorem DS.str {s : List Nat} (hs : ∀ c ∈ s, c < 16 ^ 8) (hk : s.length ≤ k) : DS h n k (.str s) (.str (S s)) := by
  refine ⟨.str s, by rw [PyData.showable.eq_3], ?_, ?_⟩
  · simp only [PyData.leavesShort, List.all_eq_true, decide_eq_true_eq]
    exact fun c hc => hs c (by simpa using hc)
  · simp only [PyData.weight]
    simpa using hk
theorem DSs.nil : DSs h n k [] [] := ⟨.nil, by simp [PyData.showableAll], by simp [PyData.leavesShortAll], by simp [PyData.weightAll]⟩
theorem DSs.cons {x : EV} {xs : List EV} {d : PyData} {ds : List PyData} {a b : Nat} (hx : DS h n a x d) (hs : DSs h n b xs ds) : DSs h n (a + 1 + b) (x :: xs) (d :: ds) := by
  refine ⟨.cons hx.1 hs.1, ?_, ?_, ?_⟩
  · simp only [PyData.showableAll, hx.2.1, hs.2.1, Bool.and_self]
  · simp only [PyData.leavesShortAll, hx.2.2.1, hs.2.2.1, Bool.and_self]
  · simp only [PyData.weightAll]
    have := hx.2.2.2
    have := hs.2.2.2
    omega
theorem DS.tup {xs : List EV} {ds : List PyData} (hs : DSs h n k xs ds) : DS h (n + 1) k (.tup xs) (.tuple ds) := by
  refine ⟨.tup hs.1, ?_, ?_, ?_⟩
  · simpa only [PyData.showable] using hs.2.1
  · simpa only [PyData.leavesShort] using hs.2.2.1
  · simpa only [PyData.weight] using hs.2.2.2
theorem DS.lst {r : Nat} {xs : List EV} {ds : List PyData} (e : h[r]? = some (.lst xs)) (hs : DSs h n k xs ds) : DS h (n + 1) k (.ref r) (.list ds) := by
  refine ⟨.lst e hs.1, ?_, ?_, ?_⟩
  · simpa only [PyData.showable] using hs.2.1
  · simpa only [PyData.leavesShort] using hs.2.2.1
  · simpa only [PyData.weight] using hs.2.2.2
theorem DS.more {v : EV} {d : PyData} (x : DS h n k v d) (hk : k ≤ j) : DS h n j v d := ⟨x.1, x.2.1, x.2.2.1, Nat.le_trans x.2.2.2 hk⟩
theorem DSs.more {v : List EV} {d : List PyData} (x : DSs h n k v d) (hk : k ≤ j) : DSs h n j v d := ⟨x.1, x.2.1, x.2.2.1, Nat.le_trans x.2.2.2 hk⟩
theorem DS.fits {v : EV} {d : PyData} (x : DS h n k v d) (hk : k ≤ 2 ^ 20) : d.showable = true ∧ d.shown.length ≤ sizeLine := ⟨x.2.1, PyData.shown_fits (by decide) (by decide) x.2.2.1 (Nat.le_trans x.2.2.2 hk)⟩
end
mutual
def pd : EV → PyData
  | .int i => .int i
  | .bl b => .bool b
  | .str s => .str (S s)
  | .tup xs => .tuple (pds xs)
  | _ => .none
def pds : List EV → List PyData
  | [] => []
  | x :: xs => pd x :: pds xs
end
mutual
/-- small, no objects; nested at most n deep -/
def Sml : Nat → EV → Prop
  | _, .int i => i.natAbs < 10 ^ 12
  | _, .bl _ => True
  | _, .non => True
  | _, .str s => ∀ c ∈ s, c < 16 ^ 8
  | n + 1, .tup xs => Smls n xs
  | _, _ => False
def Smls : Nat → List EV → Prop
  | _, [] => True
  | n, x :: xs => Sml n x ∧ Smls n xs
end
mutual
def wE : EV → Nat
  | .int _ => 41
  | .str s => s.length
  | .tup xs => wEs xs
  | _ => 0
def wEs : List EV → Nat
  | [] => 0
  | x :: xs => wE x + 1 + wEs xs
end
mutual
theorem Sml.ds {h : EH} : ∀ (n : Nat) (v : EV), Sml n v → DS h n (wE v) v (pd v)
  | n, .int i, s => by rw [Sml] at s; rw [pd, wE]; exact .int s (Nat.le_refl _)
  | n, .bl b, s => by rw [pd]; exact .bl
  | n, .non, s => by simp only [pd, wE]; exact .non
  | n, .str l, s => by rw [Sml] at s; rw [pd, wE]; exact .str s (Nat.le_refl _)
  | n + 1, .tup xs, s => by rw [Sml] at s; rw [pd, wE]; exact .tup (Smls.ds n xs s)
  | 0, .tup xs, s => by simp [Sml] at s
  | _, .ref _, s => by simp [Sml] at s
  | _, .adr _, s => by simp [Sml] at s
  | _, .ty _, s => by simp [Sml] at s
theorem Smls.ds {h : EH} : ∀ (n : Nat) (vs : List EV), Smls n vs → DSs h n (wEs vs) vs (pds vs)
  | n, [], s => by rw [pds, wEs]; exact .nil
  | n, x :: xs, s => by rw [Smls] at s; rw [pds, wEs]; exact .cons (Sml.ds n x s.1) (Smls.ds n xs s.2)
end
theorem Smls.all {n : Nat} : ∀ {vs : List EV}, (∀ v ∈ vs, Sml n v) → Smls n vs
  | [], _ => by rw [Smls]; trivial
  | x :: xs, s => by rw [Smls]; exact ⟨s x (by simp), Smls.all fun v hv => s v (List.mem_cons_of_mem _ hv)⟩
theorem wEs_le {c : Nat} : ∀ {vs : List EV}, (∀ v ∈ vs, wE v ≤ c) → wEs vs ≤ vs.length * (c + 1)
  | [], _ => by rw [wEs]; omega
  | x :: xs, s => by
    rw [wEs, List.length_cons, Nat.add_mul]
    have := s x (by simp)
    have := wEs_le (vs := xs) fun v hv => s v (List.mem_cons_of_mem _ hv)
    omega
theorem eqE_same {h : EH} {v w : EV} {d : PyData} {P : EK} (a : Dat h 60 v d) (b : Dat h 60 w d) (p : P (.bl true) h) : eqE false v w h P := by
  have fin : ∃ d e, Dat h 60 v d ∧ Dat h 60 w e ∧ P (.bl (false ^^ PyData.eqv d e)) h := ⟨d, d, a, b, by
    rw [PySem.SeqAt.eqv_refl_plain d (Dat.dep d 60 v a).2]; exact p⟩
  cases a <;> cases b <;> first | exact fin | (unfold eqE; simpa using p)
end Y

namespace Y
open PySem PySem.Spec PyProof.Rows L2

theorem sizeL : sizeLine = 16777216 := by decide
theorem at0 {α : Type} {x : α} {xs : List α} : atI (x :: xs) 0 = some x := by
  have := L2.atI_nat (xs := x :: xs) (j := 0) (v := x) rfl
  simpa using this
theorem at1 {α : Type} {x y : α} {xs : List α} : atI (x :: y :: xs) 1 = some y := by
  have := L2.atI_nat (xs := x :: y :: xs) (j := 1) (v := y) rfl
  simpa using this
theorem at2 {α : Type} {x y z : α} {xs : List α} : atI (x :: y :: z :: xs) 2 = some z := by
  have := L2.atI_nat (xs := x :: y :: z :: xs) (j := 2) (v := z) rfl
  simpa using this
theorem at3 {α : Type} {x y z u : α} {xs : List α} : atI (x :: y :: z :: u :: xs) 3 = some u := by
  have := L2.atI_nat (xs := x :: y :: z :: u :: xs) (j := 3) (v := u) rfl
  simpa using this
theorem atm1 {α : Type} (xs : List α) (v : α) : atI (xs ++ [v]) (-1) = some v := L2.atI_last xs v
theorem set_at {h : EH} {b : Nat} {o u : EO} (e : h[b]? = some u) : (h.set b o)[b]? = some o := List.getElem?_set_self (lt_of_at e)
theorem set_off {h : EH} {b c : Nat} {o u : EO} (e : h[c]? = some u) (n : c ≠ b) : (h.set b o)[c]? = some u := by rw [List.getElem?_set_ne (fun z => n z.symm)]; exact e
section
variable {h : EH} {P : EK} {r l b c : Nat} {xs ys : List EV} {i j : Int} {v w x : EV}
theorem ix_l (e : h[r]? = some (.lst xs)) (a : atI xs i = some x) (p : P x h) : ixE (.ref r) (.int i) h P := by
  unfold ixE; simp only [e, a]; exact p
theorem ix_t (a : atI xs i = some x) (p : P x h) : ixE (.tup xs) (.int i) h P := by
  unfold ixE; simp only [a]; exact p
theorem ix_s {s : List Nat} {y : Nat} (hl : s.length ≤ sizeLine) (a : atI s i = some y) (p : P (.str [y]) h) : ixE (.str s) (.int i) h P := by
  unfold ixE; simp only [a]; exact ⟨hl, p⟩
theorem sl_l {lo hi : Option Int} (e : h[r]? = some (.lst xs)) (p : P (.ref h.length) (h ++ [.lst (cut xs lo hi)])) : slE (.ref r) lo hi h P := by
  unfold slE; simp only [e]; exact p
theorem sl_s {s : List Nat} {lo hi : Option Int} (hl : s.length ≤ sizeLine) (p : P (.str (cut s lo hi)) h) : slE (.str s) lo hi h P := ⟨hl, p⟩
theorem add_l (e : h[l]? = some (.lst xs)) (e2 : h[r]? = some (.lst ys)) (hl : xs.length + ys.length ≤ sizeLine) (p : P (.ref h.length) (h ++ [.lst (xs ++ ys)])) : addE (.ref l) (.ref r) h P := by
  unfold addE; simp only [e, e2]; exact ⟨hl, p⟩
theorem add_s {s t : List Nat} (hl : s.length + t.length ≤ sizeLine) (p : P (.str (s ++ t)) h) : addE (.str s) (.str t) h P := ⟨hl, p⟩
theorem set_l {k : Nat} {p : EH → Prop} (e : h[b]? = some (.lst xs)) (a : ixN xs.length i = some k) (q : p (h.set b (.lst (xs.set k v)))) : setE (.ref b) (.int i) v h p := by
  unfold setE; simp only [e, a]; exact q
theorem get_l {p : EV → Prop} (e : h[b]? = some (.lst xs)) (h0 : 0 ≤ i) (a : xs[i.toNat]? = some x) (q : p x) : getE (.ref b) (.int i) h p := by
  unfold getE; simp only [e, a]; exact ⟨h0, q⟩
theorem mul_i (c : IntMulOk i j) (p : P (.int (i * j)) h) : mulE (.int i) (.int j) h P := ⟨c, p⟩
theorem mod_i (c : 0 < j) (p : P (.int (i % j)) h) : modE (.int i) (.int j) h P := ⟨c, p⟩
theorem div_i (c : 0 < j) (c2 : j < 2 ^ 64) (p : P (.int (i / j)) h) : fdivE (.int i) (.int j) h P := ⟨⟨c, by
  have := log_le (a := j.natAbs) (k := 64) (by omega) (by decide)
  omega⟩, p⟩
theorem pow_i (c : CPow i j) (p : P (.int (i ^ j.toNat)) h) : powE (.int i) (.int j) h P := ⟨c, p⟩
theorem int_i (p : P (.int i) h) : intOf [.int i] h P := p
theorem int_b {q : Bool} (p : P (.int (if q then 1 else 0)) h) : intOf [.bl q] h P := p
theorem le_i (p : P (.bl (decide (i ≤ j))) h) : leE (.int i) (.int j) h P := p
theorem ge_i (p : P (.bl (decide (j ≤ i))) h) : geE (.int i) (.int j) h P := p
theorem add_i (p : P (.int (i + j)) h) : addE (.int i) (.int j) h P := p
theorem eq_i {n : Bool} (p : P (.bl (n ^^ decide (i = j))) h) : eqE n (.int i) (.int j) h P := p
theorem eq_s {n : Bool} {s t : List Nat} (p : P (.bl (n ^^ decide (s = t))) h) : eqE n (.str s) (.str t) h P := p
theorem mulOk_r (hj : j.natAbs < 2 ^ 64) : IntMulOk i j := (show CMul i j from .inr (by omega)).ok
theorem mulOk_l (hi : i.natAbs < 2 ^ 64) : IntMulOk i j := (show CMul i j from .inl (by omega)).ok
theorem ins_e (e : h[r]? = some (.lst xs)) (hl : xs.length < sizeLine) (h0 : 0 ≤ i) (h1 : i < 2 ^ 63) (p : P .non (h.set r (.lst (xs.take i.toNat ++ [v] ++ xs.drop i.toNat)))) : insertE (.ref r) [.int i, v] h P := by
  unfold insertE onList; simp only [e]; exact ⟨hl, h0, h1, p⟩
theorem len_l (e : h[r]? = some (.lst xs)) (p : P (.int xs.length) h) : lenE [.ref r] h P := by
  unfold lenE; simp only [e]; exact p
end
theorem cut_to {α : Type} (xs : List α) (k : Nat) : cut xs none (some (k : Int)) = xs.take k := by
  unfold cut
  rw [HT.sIx_none, HT.sIx_nat]
  simp only [List.drop_zero, Nat.sub_zero]
  by_cases q : k ≤ xs.length
  · rw [Nat.min_eq_left q]
  · rw [Nat.min_eq_right (by omega), List.take_of_length_le (Nat.le_refl _), List.take_of_length_le (by omega)]
theorem cut_from {α : Type} (xs : List α) (k : Nat) : cut xs (some (k : Int)) none = xs.drop k := by
  unfold cut
  rw [HT.sIx_none, HT.sIx_nat]
  by_cases q : k ≤ xs.length
  · rw [Nat.min_eq_left q, List.take_of_length_le (by simp)]
  · rw [Nat.min_eq_right (by omega), List.take_of_length_le (by simp), List.drop_of_length_le (Nat.le_refl _), List.drop_of_length_le (by omega)]
mutual
/-- nested at most n deep, so at most j -/
theorem Dat.deep' {h : EH} : ∀ (d : PyData) (n j : Nat) (v : EV), n ≤ j → Dat h n v d → Dat h j v d
  | .none, n, j, v, l, a => by cases a; exact .non
  | .bool _, n, j, v, l, a => by cases a; exact .bl _
  | .int _, n, j, v, l, a => by cases a; exact .int _
  | .str _, n, j, v, l, a => by cases a; exact .str _
  | .dict _, n, j, v, l, a => by cases a
  | .tuple ds, n, j, v, l, a => by
    cases a with
    | tup r =>
      cases j with
      | zero => omega
      | succ j => exact .tup (Dats.deep' ds _ j _ (by omega) r)
    | ktup r =>
      cases j with
      | zero => omega
      | succ j => exact .ktup (Dats.deep' ds _ j _ (by omega) r)
  | .list ds, n, j, v, l, a => by
    cases a with
    | lst e r =>
      cases j with
      | zero => omega
      | succ j => exact .lst e (Dats.deep' ds _ j _ (by omega) r)
theorem Dats.deep' {h : EH} : ∀ (ds : List PyData) (n j : Nat) (vs : List EV), n ≤ j → Dats h n vs ds → Dats h j vs ds
  | [], n, j, vs, l, a => by cases a; exact .nil
  | d :: ds, n, j, vs, l, a => by
    cases a with
    | cons a b => exact .cons (Dat.deep' d n j _ l a) (Dats.deep' ds n j _ l b)
end
theorem Dat.deep {h : EH} {d : PyData} {n j : Nat} {v : EV} (a : Dat h n v d) (l : n ≤ j) : Dat h j v d := Dat.deep' d n j v l a
theorem bind_nm {h : EH} {i : Nat} {v : EV} {env : En} {P : En → Prop} (p : P (env.set i (some v))) : lBind h (.nm i) v env P := p
end Y

namespace Y
open PySem PySem.Spec PyProof.Rows L2

def kEq : EV → EV → Bool
  | .int i, .int j => decide (i = j)
  | .str a, .str b => decide (a = b)
  | _, _ => false
def isKey : EV → Prop
  | .int _ => True
  | .str _ => True
  | _ => False
def dGet (kvs : List (EV × EV)) (k : EV) : Option EV := match kvs with
  | [] => none
  | (a, x) :: r => if kEq a k = true then some x else dGet r k
def dHas (kvs : List (EV × EV)) (k : EV) : Bool := (dGet kvs k).isSome
def dRep (kvs : List (EV × EV)) (k v : EV) : List (EV × EV) := kvs.map fun p => if kEq p.1 k = true then (p.1, v) else p
def dPut (kvs : List (EV × EV)) (k v : EV) : List (EV × EV) := if dHas kvs k = true then dRep kvs k v else kvs ++ [(k, v)]
section
variable {K : PySem.W.Frag} {m : Nat → Addr} {n : Nat} {H : Hp}
theorem key_of {k : EV} {y : V} (hk : isKey k) (r : RelE K m n H k y) : ∃ k' : L2.Key, y = kV k' := by
  cases k with
  | int i => rw [RelE] at r; exact ⟨.inl i, r⟩
  | str s => rw [RelE] at r; exact ⟨.inr (S s), r⟩
  | _ => exact hk.elim
theorem kEq_dec {a k : EV} {x y : L2.Key} (ra : RelE K m n H a (kV x)) (rk : RelE K m n H k (kV y)) (hk : isKey k) : kEq a k = decide (x = y) := by
  have no : ∀ {b : Bool} {z : L2.Key}, kV z ≠ V.bl b := fun {b z} => by cases z <;> simp [kV]
  cases k with
  | int j =>
    rw [RelE] at rk
    cases y with
    | inl j' =>
      have : j' = j := by injection rk
      subst this
      cases a with
      | int i =>
        rw [RelE] at ra
        cases x with
        | inl i' =>
          have : i' = i := by injection ra
          subst this
          simp [kEq]
        | inr s => cases ra
      | str s =>
        rw [RelE] at ra
        cases x with
        | inl i' => cases ra
        | inr s' => simp [kEq]
      | non => rw [RelE] at ra; cases x <;> cases ra
      | bl b => rw [RelE] at ra; exact absurd ra no
      | tup xs => rw [RelE] at ra; obtain ⟨_, _, e, _⟩ := ra; cases x <;> cases e
      | ktup xs => rw [RelE] at ra; obtain ⟨_, _, e, _⟩ := ra; cases x <;> cases e
      | ref r => rw [RelE] at ra; cases x <;> cases ra.2
      | adr r => rw [RelE] at ra; cases x <;> cases ra
      | ty r => rw [RelE] at ra; cases x <;> cases ra
    | inr s => cases rk
  | str t =>
    rw [RelE] at rk
    cases y with
    | inl j' => cases rk
    | inr t' =>
      have : t' = S t := by injection rk
      subst this
      cases a with
      | int i =>
        rw [RelE] at ra
        cases x with
        | inl i' => simp [kEq]
        | inr s => cases ra
      | str s =>
        rw [RelE] at ra
        cases x with
        | inl i' => cases ra
        | inr s' =>
          have : s' = S s := by injection ra
          subst this
          simp only [kEq, Sum.inr.injEq, S_inj]
      | non => rw [RelE] at ra; cases x <;> cases ra
      | bl b => rw [RelE] at ra; exact absurd ra no
      | tup xs => rw [RelE] at ra; obtain ⟨_, _, e, _⟩ := ra; cases x <;> cases e
      | ktup xs => rw [RelE] at ra; obtain ⟨_, _, e, _⟩ := ra; cases x <;> cases e
      | ref r => rw [RelE] at ra; cases x <;> cases ra.2
      | adr r => rw [RelE] at ra; cases x <;> cases ra
      | ty r => rw [RelE] at ra; cases x <;> cases ra
  | _ => exact hk.elim
theorem RelKV.get {k : EV} {y : L2.Key} (rk : RelE K m n H k (kV y)) (hk : isKey k) : ∀ {es : List (EV × EV)} {l : List (L2.Key × V)}, RelKV K m n H es l →
    (∀ x, dGet es k = some x → ∃ v, valV l y = some v ∧ RelE K m n H x v) ∧ (dGet es k = none → valV l y = none)
  | [], l, r => by
    rw [RelKV] at r
    subst r
    exact ⟨fun x e => by simp [dGet] at e, fun _ => rfl⟩
  | (a, x) :: es, l, r => by
    rw [RelKV] at r
    obtain ⟨a', v, l', rfl, ra, rx, r⟩ := r
    have e := kEq_dec ra rk hk
    have ih := RelKV.get rk hk r
    unfold dGet
    rw [e]
    by_cases q : a' = y
    · rw [decide_eq_true q, if_pos rfl, valV_pos (p := (a', v)) q]
      exact ⟨fun z ez => by cases ez; exact ⟨v, rfl, rx⟩, fun ez => by cases ez⟩
    · rw [decide_eq_false q, if_neg Bool.false_ne_true, valV_neg (p := (a', v)) q]
      exact ih
theorem RelKV.has {k : EV} {y : L2.Key} {es : List (EV × EV)} {l : List (L2.Key × V)} (rk : RelE K m n H k (kV y)) (hk : isKey k) (r : RelKV K m n H es l) : (valV l y).isSome = dHas es k := by
  obtain ⟨h1, h2⟩ := RelKV.get rk hk r
  unfold dHas
  cases e : dGet es k with
  | none => rw [h2 e]; rfl
  | some x => obtain ⟨v, ev, _⟩ := h1 x e; rw [ev]; rfl
theorem RelKV.app {es fs : List (EV × EV)} {l l' : List (L2.Key × V)} (h : RelKV K m n H es l) (g : RelKV K m n H fs l') : RelKV K m n H (es ++ fs) (l ++ l') := by
  induction es generalizing l with
  | nil => rw [RelKV] at h; subst h; exact g
  | cons p es ih =>
    obtain ⟨a, x⟩ := p
    rw [RelKV] at h
    obtain ⟨a', v, l2, rfl, ra, rx, r⟩ := h
    rw [List.cons_append, List.cons_append, RelKV]
    exact ⟨a', v, _, rfl, ra, rx, ih r⟩
theorem RelKV.rep {k w : EV} {y : L2.Key} {z : V} (rk : RelE K m n H k (kV y)) (hk : isKey k) (rw' : RelE K m n H w z) : ∀ {es : List (EV × EV)} {l : List (L2.Key × V)}, RelKV K m n H es l →
    RelKV K m n H (dRep es k w) (l.map fun kv => if kv.1 = y then (kv.1, z) else kv)
  | [], l, r => by rw [RelKV] at r; subst r; exact rfl
  | (a, x) :: es, l, r => by
    rw [RelKV] at r
    obtain ⟨a', v, l', rfl, ra, rx, r⟩ := r
    have e := kEq_dec ra rk hk
    have ih := RelKV.rep rk hk rw' r
    unfold dRep at ih ⊢
    rw [List.map_cons, List.map_cons]
    simp only [e]
    by_cases q : a' = y
    · rw [decide_eq_true q, if_pos rfl, if_pos q, RelKV]
      exact ⟨a', z, _, rfl, ra, rw', ih⟩
    · rw [decide_eq_false q, if_neg Bool.false_ne_true, if_neg q, RelKV]
      exact ⟨a', v, _, rfl, ra, rx, ih⟩
theorem RelKV.put {k w : EV} {y : L2.Key} {z : V} {es : List (EV × EV)} {l : List (L2.Key × V)} (rk : RelE K m n H k (kV y)) (hk : isKey k) (rw' : RelE K m n H w z) (r : RelKV K m n H es l) : RelKV K m n H (dPut es k w) (putK l y z) := by
  unfold dPut putK
  rw [valV_any, RelKV.has rk hk r]
  split
  · exact RelKV.rep rk hk rw' r
  · exact r.app (by rw [RelKV]; exact ⟨y, z, [], rfl, rk, rw', rfl⟩)
end
def isKeyT (v : EV) : Prop := (keyL v).isSome = true
def dGetT (kvs : List (EV × EV)) (k : EV) : Option EV := match kvs with
  | [] => none
  | (a, x) :: r => if keyL a = keyL k then some x else dGetT r k
def dHasT (kvs : List (EV × EV)) (k : EV) : Bool := (dGetT kvs k).isSome
def dRepT (kvs : List (EV × EV)) (k v : EV) : List (EV × EV) := kvs.map fun p => if keyL p.1 = keyL k then (p.1, v) else p
def dPutT (kvs : List (EV × EV)) (k v : EV) : List (EV × EV) := if dHasT kvs k = true then dRepT kvs k v else kvs ++ [(k, v)]
section
variable {K : PySem.W.Frag} {m : Nat → Addr} {n : Nat} {H : Hp}
theorem keysL_rel : ∀ {ks : List EV} {k' : List L2.Key} {vs : List V}, keysL ks = some k' → RelEs K m n H ks vs → vs = k'.map kV
  | [], k', vs, e, r => by
    rw [keysL] at e; cases e
    rw [RelEs] at r; exact r
  | x :: ks, k', vs, e, r => by
    rw [RelEs] at r
    obtain ⟨v, l, rfl, a, b⟩ := r
    cases x with
    | int i =>
      rw [keysL] at e
      obtain ⟨q, hq, rfl⟩ := Option.map_eq_some_iff.mp e
      rw [RelE] at a
      rw [a, keysL_rel hq b]; rfl
    | str s =>
      rw [keysL] at e
      obtain ⟨q, hq, rfl⟩ := Option.map_eq_some_iff.mp e
      rw [RelE] at a
      rw [a, keysL_rel hq b]; rfl
    | _ => simp [keysL] at e
theorem keyT_of {k : EV} {y : V} (hk : isKeyT k) (r : RelE K m n H k y) : ∃ k' b, keyL k = some k' ∧ y = .ref b ∧ H b = some (.tup (k'.map kV)) := by
  obtain ⟨k', e⟩ := Option.isSome_iff_exists.mp hk
  cases k with
  | tup ks =>
    rw [RelE] at r
    obtain ⟨a, vs, rfl, h, r⟩ := r
    exact ⟨k', a, e, rfl, by rw [← keysL_rel e r]; exact h⟩
  | _ => simp [keyL] at e
theorem RelKT.get {k : EV} {y : List L2.Key} (hk : keyL k = some y) : ∀ {es : List (EV × EV)} {l : List (List L2.Key × V)}, RelKT K m n H es l →
    (∀ x, dGetT es k = some x → ∃ v, valV l y = some v ∧ RelE K m n H x v) ∧ (dGetT es k = none → valV l y = none)
  | [], l, r => by
    rw [RelKT] at r
    subst r
    exact ⟨fun x e => by simp [dGetT] at e, fun _ => rfl⟩
  | (a, x) :: es, l, r => by
    rw [RelKT] at r
    obtain ⟨a', v, l', rfl, ra, rx, r⟩ := r
    have ih := RelKT.get hk r
    unfold dGetT
    rw [ra, hk]
    by_cases q : a' = y
    · rw [if_pos (by rw [q]), valV_pos (p := (a', v)) q]
      exact ⟨fun z ez => by cases ez; exact ⟨v, rfl, rx⟩, fun ez => by cases ez⟩
    · rw [if_neg (fun z => q (Option.some.inj z)), valV_neg (p := (a', v)) q]
      exact ih
theorem RelKT.has {k : EV} {y : List L2.Key} {es : List (EV × EV)} {l : List (List L2.Key × V)} (hk : keyL k = some y) (r : RelKT K m n H es l) : (valV l y).isSome = dHasT es k := by
  obtain ⟨h1, h2⟩ := RelKT.get hk r
  unfold dHasT
  cases e : dGetT es k with
  | none => rw [h2 e]; rfl
  | some x => obtain ⟨v, ev, _⟩ := h1 x e; rw [ev]; rfl
theorem RelKT.app {es fs : List (EV × EV)} {l l' : List (List L2.Key × V)} (h : RelKT K m n H es l) (g : RelKT K m n H fs l') : RelKT K m n H (es ++ fs) (l ++ l') := by
  induction es generalizing l with
  | nil => rw [RelKT] at h; subst h; exact g
  | cons p es ih =>
    obtain ⟨a, x⟩ := p
    rw [RelKT] at h
    obtain ⟨a', v, l2, rfl, ra, rx, r⟩ := h
    rw [List.cons_append, List.cons_append, RelKT]
    exact ⟨a', v, _, rfl, ra, rx, ih r⟩
theorem RelKT.rep {k w : EV} {y : List L2.Key} {z : V} (hk : keyL k = some y) (rw' : RelE K m n H w z) : ∀ {es : List (EV × EV)} {l : List (List L2.Key × V)}, RelKT K m n H es l →
    RelKT K m n H (dRepT es k w) (l.map fun kv => if kv.1 = y then (kv.1, z) else kv)
  | [], l, r => by rw [RelKT] at r; subst r; exact rfl
  | (a, x) :: es, l, r => by
    rw [RelKT] at r
    obtain ⟨a', v, l', rfl, ra, rx, r⟩ := r
    have ih := RelKT.rep hk rw' r
    unfold dRepT at ih ⊢
    rw [List.map_cons, List.map_cons]
    simp only [ra, hk]
    by_cases q : a' = y
    · rw [if_pos (by rw [q]), if_pos q, RelKT]
      exact ⟨a', z, _, rfl, ra, rw', by simpa only [hk] using ih⟩
    · rw [if_neg (fun z => q (Option.some.inj z)), if_neg q, RelKT]
      exact ⟨a', v, _, rfl, ra, rx, by simpa only [hk] using ih⟩
theorem RelKT.put {k w : EV} {y : List L2.Key} {z : V} {es : List (EV × EV)} {l : List (List L2.Key × V)} (hk : keyL k = some y) (rw' : RelE K m n H w z) (r : RelKT K m n H es l) : RelKT K m n H (dPutT es k w) (putK l y z) := by
  unfold dPutT putK
  rw [valV_any, RelKT.has hk r]
  split
  · exact RelKT.rep hk rw' r
  · exact r.app (by rw [RelKT]; exact ⟨y, z, [], rfl, hk, rw', rfl⟩)
theorem RelKT.length : ∀ {es : List (EV × EV)} {vs : List (List L2.Key × V)}, RelKT K m n H es vs → es.length = vs.length
  | [], _, r => by rw [RelKT] at r; subst r; rfl
  | _ :: _, _, r => by
    rw [RelKT] at r
    obtain ⟨k, v, l, rfl, _, _, r⟩ := r
    simp [RelKT.length r]
end
def dgE : LO := fun v w h P => match v with
  | .ref r => match h[r]? with
    | some (.dic kvs) => isKey w ∧ match dGet kvs w with
      | some x => P x h
      | none => False
    | some (.dct kvs) => isKeyT w ∧ match dGetT kvs w with
      | some x => P x h
      | none => False
    | _ => False
  | _ => False
def rDg : R2 := fun x y H Q => ∃ a v, x = .ref a ∧ DGet H a y (some v) ∧ Q v H
section
variable {X : Cx}
theorem ix_dg (hu : X.A.units + 1 < cLine) : IxR X rDg := by
  intro value slice pins s σ H x y v u Q I rx ry h hs
  obtain ⟨a, r, rfl, g, q⟩ := h
  obtain rfl : v = Value.ref a := rx
  exact tail_any (dict_typeIs I g) slot_dict_getitem.lookup (d_getItem hu I g ry fun w' s3 I3 rw' => ⟨r, H, I3, rw', q⟩) hs
theorem lop_dg : LOp X.K rDg dgE := by
  intro m h H v w x y P Q R rx ry q k
  unfold dgE at q
  split at q
  · rw [RelE] at rx
    obtain ⟨_, rfl⟩ := rx
    split at q
    · rename_i e
      obtain ⟨l, a, r⟩ := R.obj _ _ e
      obtain ⟨hk, q⟩ := q
      obtain ⟨k', rfl⟩ := key_of hk ry
      split at q
      · rename_i e2
        obtain ⟨z, ez, rz⟩ := (RelKV.get ry hk r).1 _ e2
        refine ⟨_, z, rfl, ?_, k.same R q rz⟩
        rw [← ez]
        exact DGet.k a
      · exact q.elim
    · rename_i e
      obtain ⟨l, a, r⟩ := R.obj _ _ e
      obtain ⟨hk, q⟩ := q
      obtain ⟨k', b, ek, rfl, hb⟩ := keyT_of hk ry
      split at q
      · rename_i e2
        obtain ⟨z, ez, rz⟩ := (RelKT.get ek r).1 _ e2
        refine ⟨_, z, rfl, ?_, k.same R q rz⟩
        rw [← ez]
        exact DGet.t a hb
      · exact q.elim
    · exact q.elim
  · exact q.elim
end
def ixA : LO := fun v w h P => match v with
  | .ref r => match h[r]? with
    | some (.dic _) => dgE v w h P
    | some (.dct _) => dgE v w h P
    | _ => ixE v w h P
  | _ => ixE v w h P
theorem ixA_or {v w : EV} {h : EH} {P : EK} (q : ixA v w h P) : dgE v w h P ∨ ixE v w h P := by
  unfold ixA at q
  split at q
  · split at q
    · exact .inl q
    · exact .inl q
    · exact .inr q
  · exact .inr q
theorem lixA {X : Cx} (hu : X.A.units + 1 < cLine) : LIxR X ixA := by
  obtain ⟨r, h, s⟩ := lix (X := X)
  refine ⟨_, IxR.or (ix_dg hu) h, fun m h H v w x y P Q R rx ry q k => ?_⟩
  rcases ixA_or q with q | q
  · exact .inl (lop_dg m h H v w x y P Q R rx ry q k)
  · exact .inr (s m h H v w x y P Q R rx ry q k)
section
variable {h : EH} {P : EK} {r l b c : Nat} {xs ys : List EV} {i j : Int} {v w x : EV} {kvs : List (EV × EV)}
theorem ia_l (e : h[r]? = some (.lst xs)) (a : atI xs i = some x) (p : P x h) : ixA (.ref r) (.int i) h P := by
  unfold ixA; simp only [e]; exact ix_l e a p
theorem ia_t (a : atI xs i = some x) (p : P x h) : ixA (.tup xs) (.int i) h P := ix_t a p
theorem ia_s {s : List Nat} {y : Nat} (hl : s.length ≤ sizeLine) (a : atI s i = some y) (p : P (.str [y]) h) : ixA (.str s) (.int i) h P := ix_s hl a p
theorem ia_d (e : h[r]? = some (.dic kvs)) (hk : isKey w) (a : dGet kvs w = some x) (p : P x h) : ixA (.ref r) w h P := by
  unfold ixA dgE; simp only [e, a]; exact ⟨hk, p⟩
theorem ia_dt (e : h[r]? = some (.dct kvs)) (hk : isKeyT w) (a : dGetT kvs w = some x) (p : P x h) : ixA (.ref r) w h P := by
  unfold ixA dgE; simp only [e, a]; exact ⟨hk, p⟩
end
def flatE : EV → Bool
  | .non => true
  | .bl _ => true
  | .int _ => true
  | .str _ => true
  | _ => false
def eqF : EV → EV → Bool
  | .non, .non => true
  | .bl a, .bl b => decide (a = b)
  | .int i, .int j => decide (i = j)
  | .str a, .str b => decide (a = b)
  | .bl b, .int i => decide (i = if b then 1 else 0)
  | .int i, .bl b => decide (i = if b then 1 else 0)
  | _, _ => false
def inF (v : EV) (xs : List EV) : Bool := xs.any fun y => eqF y v
def toV : EV → V
  | .bl b => .bl b
  | .int i => .int i
  | .str s => .str (S s)
  | _ => .non
theorem flat_rel {K : PySem.W.Frag} {m : Nat → Addr} {n : Nat} {H : Hp} {v : EV} {x : V} (f : flatE v = true) (r : RelE K m n H v x) : x = toV v := by
  cases v <;> first | (simp [flatE] at f; done) | (rw [RelE] at r; exact r)
theorem toV_flat {v : EV} (f : flatE v = true) : flatV (toV v) = true := by
  cases v <;> first | (simp [flatE] at f; done) | rfl
theorem eqF_V {a b : EV} (fa : flatE a = true) (fb : flatE b = true) : eqV (toV a) (toV b) = eqF a b := by
  cases a <;> cases b <;> first
    | (simp [flatE] at fa; done)
    | (simp [flatE] at fb; done)
    | rfl
    | (simp only [toV, eqV, eqF]; exact beqD _ _)
    | (simp only [toV, eqV, eqF]; rw [beqD]; exact decide_eq_decide.mpr S_inj)
    | (simp only [toV, eqV, eqF]; rw [beqD]; exact decide_eq_decide.mpr eq_comm)
theorem flats_rel {K : PySem.W.Frag} {m : Nat → Addr} {n : Nat} {H : Hp} : ∀ {es : List EV} {vs : List V}, es.all flatE = true → RelEs K m n H es vs → vs = es.map toV
  | [], vs, _, r => by rw [RelEs] at r; exact r
  | e :: es, vs, f, r => by
    rw [RelEs] at r
    obtain ⟨v, l, rfl, a, b⟩ := r
    simp only [List.all_cons, Bool.and_eq_true] at f
    rw [flat_rel f.1 a, flats_rel f.2 b]; rfl
theorem inF_V {v : EV} {xs : List EV} (fv : flatE v = true) (fs : xs.all flatE = true) : inV (toV v) (xs.map toV) = inF v xs := by
  unfold inV inF
  induction xs with
  | nil => rfl
  | cons x xs ih =>
    simp only [List.all_cons, Bool.and_eq_true] at fs
    rw [List.map_cons, List.any_cons, List.any_cons, ih fs.2, eqF_V fs.1 fv]
def inSq (neg : Bool) (v : EV) (xs : List EV) (P : EV → Prop) : Prop := flatE v = true ∧ xs.all flatE = true ∧ P (.bl (neg ^^ inF v xs))
def inA (neg : Bool) : LO := fun v w h P => match w with
  | .tup xs => inSq neg v xs fun b => P b h
  | .ktup xs => inSq neg v xs fun b => P b h
  | .str z => match v with
    | .str [c] => P (.bl (neg ^^ decide (c ∈ z))) h
    | _ => False
  | .ref r => match h[r]? with
    | some (.dic kvs) => isKey v ∧ P (.bl (neg ^^ dHas kvs v)) h
    | some (.dct kvs) => isKeyT v ∧ P (.bl (neg ^^ dHasT kvs v)) h
    | some (.lst xs) => (inSq neg v xs fun b => P b h) ∨ ∃ d ds, Dat h 60 v d ∧ Dats h 59 xs ds ∧ PySem.SeqAt.shaped d = true ∧ PySem.SeqAt.shaped (.list ds) = true ∧ P (.bl (neg ^^ ds.any fun z => PyData.eqv z d)) h
    | some (.frz xs) => inSq neg v xs fun b => P b h
    | _ => False
  | _ => False
def rInDic (neg : Bool) : R2 := fun y x H Q => ∃ a o, x = .ref a ∧ DGet H a y o ∧ Q (.bl (neg ^^ o.isSome)) H
section
variable {X : Cx}
theorem inA_sim {neg : Bool} {m : Nat → Addr} {h : EH} {H : Hp} {v w : EV} {x y : V} {P : EK} {Q : VK} (R : RelH X.K m h H) (rx : RelE X.K m h.length H v x) (ry : RelE X.K m h.length H w y) (q : inA neg v w h P) (k : Kon X.K m h.length H P Q) :
    rInDic neg x y H Q ∨ (∃ p xs, y = .ref p ∧ (SqL X.K H p xs ∨ SqT X.K H p xs) ∧ flatV x = true ∧ xs.all flatV = true ∧ Q (.bl (neg ^^ inV x xs)) H) ∨
      (∃ d ds, Dp X.K H x d ∧ Dp X.K H y (.list ds) ∧ PySem.SeqAt.shaped d = true ∧ PySem.SeqAt.shaped (.list ds) = true ∧ Q (.bl (neg ^^ ds.any fun z => PyData.eqv z d)) H) ∨
      ∃ (c : Nat) (z : Str), x = .str ⟨#[c]⟩ ∧ y = .str z ∧ Q (.bl (neg ^^ decide (c ∈ z.cps.toList))) H := by
  have seq : ∀ {p : Addr} {xs : List EV} {vs : List V}, y = .ref p → (SqL X.K H p vs ∨ SqT X.K H p vs) → RelEs X.K m h.length H xs vs → (inSq neg v xs fun b => P b h) →
      ∃ p xs, y = .ref p ∧ (SqL X.K H p xs ∨ SqT X.K H p xs) ∧ flatV x = true ∧ xs.all flatV = true ∧ Q (.bl (neg ^^ inV x xs)) H := by
    intro p xs vs ey hs r ⟨f1, f2, q⟩
    have e1 := flat_rel f1 rx
    have e2 := flats_rel f2 r
    subst e1 e2
    refine ⟨p, _, ey, hs, toV_flat f1, ?_, by rw [inF_V f1 f2]; exact k.same R q (by rw [RelE])⟩
    rw [List.all_map]
    rw [List.all_eq_true] at f2 ⊢
    exact fun z hz => toV_flat (f2 z hz)
  unfold inA at q
  split at q
  · rw [RelE] at ry
    obtain ⟨a, vs, rfl, hs, r⟩ := ry
    exact .inr (.inl (seq rfl (.inr (SqT.of hs)) r q))
  · rw [RelE] at ry
    obtain ⟨a, vs, rfl, hs, r⟩ := ry
    exact .inr (.inl (seq rfl (.inr hs) r q))
  · split at q
    · rw [RelE] at rx ry
      refine .inr (.inr (.inr ⟨_, _, rx, ry, ?_⟩))
      have := k.same R q (by rw [RelE])
      simpa using this
    · exact q.elim
  · have ry0 := ry
    rw [RelE] at ry
    obtain ⟨_, rfl⟩ := ry
    split at q
    · rename_i e
      obtain ⟨l, a, r⟩ := R.obj _ _ e
      obtain ⟨hk, q⟩ := q
      obtain ⟨k', rfl⟩ := key_of hk rx
      refine .inl ⟨_, _, rfl, DGet.k a, ?_⟩
      rw [RelKV.has rx hk r]
      exact k.same R q (by rw [RelE])
    · rename_i e
      obtain ⟨l, a, r⟩ := R.obj _ _ e
      obtain ⟨hk, q⟩ := q
      obtain ⟨k', b, ek, rfl, hb⟩ := keyT_of hk rx
      refine .inl ⟨_, _, rfl, DGet.t a hb, ?_⟩
      rw [RelKT.has ek r]
      exact k.same R q (by rw [RelE])
    · rename_i e
      obtain ⟨vs, a, r⟩ := R.obj _ _ e
      rcases q with q | ⟨d, ds, d1, d2, s1, s2, q⟩
      · exact .inr (.inl (seq rfl (.inl (SqL.of a)) r q))
      · exact .inr (.inr (.inl ⟨d, ds, Dat.dp R _ _ _ _ d1 rx, Dat.dp R (.list ds) 60 _ _ (.lst e d2) ry0, s1, s2, k.same R q (by rw [RelE])⟩))
    · rename_i e
      obtain ⟨vs, a, r⟩ := R.obj _ _ e
      exact .inr (.inl (seq rfl (.inl a.sql) r q))
    · exact q.elim
  · exact q.elim
theorem lo_in (hu : X.A.units + 65 < cLine) : LOpR X (compareOp .In) (inA false) := by
  have od : OpR X (compareOp .In) (rInDic false) := by
    intro pins s σ H x y v u Q I rx ry ⟨a, o, ey, g, q⟩
    subst ey
    obtain rfl : u = Value.ref a := ry
    exact d_in (by omega) I g rx fun s3 I3 => ⟨.bl o.isSome, H, I3, rfl, by simpa using q⟩
  refine ⟨_, OpR.or od (OpR.or op_in_seq (OpR.or (op_inD hu) op_in_sign)), fun m h H v w x y P Q R rx ry q k => ?_⟩
  rcases inA_sim R rx ry q k with q | ⟨p, xs, e, a, b, c, q⟩ | ⟨d, ds, a, b, c, e, q⟩ | ⟨c, z, e1, e2, q⟩
  · exact .inl q
  · exact .inr (.inl ⟨p, xs, e, a, b, c, by simpa using q⟩)
  · exact .inr (.inr (.inl ⟨d, ds, a, b, c, e, by simpa using q⟩))
  · exact .inr (.inr (.inr ⟨c, z, e1, e2, by simpa using q⟩))
theorem lo_nin (hu : X.A.units + 65 < cLine) : LOpR X (compareOp .NotIn) (inA true) := by
  have od : OpR X (compareOp .NotIn) (rInDic true) := by
    intro pins s σ H x y v u Q I rx ry ⟨a, o, ey, g, q⟩
    subst ey
    obtain rfl : u = Value.ref a := ry
    exact d_notIn (by omega) I g rx fun s3 I3 => ⟨.bl (!o.isSome), H, I3, rfl, by simpa using q⟩
  refine ⟨_, OpR.or od (OpR.or op_notIn_seq (OpR.or (op_notInD hu) op_notIn_sign)), fun m h H v w x y P Q R rx ry q k => ?_⟩
  rcases inA_sim R rx ry q k with q | ⟨p, xs, e, a, b, c, q⟩ | ⟨d, ds, a, b, c, e, q⟩ | ⟨c, z, e1, e2, q⟩
  · exact .inl q
  · exact .inr (.inl ⟨p, xs, e, a, b, c, by simpa using q⟩)
  · exact .inr (.inr (.inl ⟨d, ds, a, b, c, e, by simpa using q⟩))
  · exact .inr (.inr (.inr ⟨c, z, e1, e2, by simpa using q⟩))
end
end Y

namespace Y
open PySem PySem.Spec PyProof.Rows L2

def lDnew : LT := fun _ h P => P (.ref h.length) (h ++ [.dic []])
def setA (o i v : EV) (h : EH) (P : EH → Prop) : Prop := match o with
  | .ref r => match h[r]? with
    | some (.dic kvs) => isKey i ∧ kvs.length < sizeLine ∧ P (h.set r (.dic (dPut kvs i v)))
    | some (.dct kvs) => isKeyT i ∧ kvs.length < sizeLine ∧ P (h.set r (.dct (dPutT kvs i v)))
    | _ => setE o i v h P
  | _ => setE o i v h P
def rSetA : TSet := fun x y z H Q => rSetL x y z H Q ∨ ∃ a H4, x = .ref a ∧ DPut H a y z H4 ∧ Q H4
section
variable {X : Cx} {pos : Pos}
theorem set_any (hu : X.A.units + 1 < cLine) : PSet X rSetA := by
  intro pins s σ H o i v ov iv u Q I ro ri rv h
  rcases h with h | ⟨a, H4, rfl, g, q⟩
  · exact set_list pins s σ H o i v ov iv u Q I ro ri rv h
  · obtain rfl : ov = Value.ref a := ro
    exact d_setItem hu I g ri rv fun s4 I4 => ⟨H4, I4, q⟩
theorem setA_sim {K : PySem.W.Frag} {m : Nat → Addr} {h : EH} {H : Hp} {o i v : EV} {x y z : V} {P : EH → Prop} {Q : Hp → Prop} (R : RelH K m h H) (rx : RelE K m h.length H o x) (ry : RelE K m h.length H i y) (rz : RelE K m h.length H v z) (q : setA o i v h P)
    (k : ∀ h', P h' → ∀ H', Ex K m h.length H m h'.length H' → RelH K m h' H' → Q H') : rSetA x y z H Q := by
  unfold setA at q
  split at q
  · split at q
    · rename_i kvs e
      rw [RelE] at rx
      obtain ⟨_, rfl⟩ := rx
      obtain ⟨hk, hl, q⟩ := q
      obtain ⟨l, a, r⟩ := R.obj _ _ e
      obtain ⟨k', rfl⟩ := key_of hk ry
      have ll := RelKV.length r
      refine .inr ⟨_, _, rfl, DPut.k a (by omega), ?_⟩
      have E := Ex.write (o := .dK (putK l k' z)) (e' := EO.dic (dPut kvs i v)) R e
      exact k _ q _ E (R.write e ⟨_, upd_same, RelKV.put (RelE.ex E _ _ ry) hk (RelE.ex E _ _ rz) (r.ex E)⟩)
    · rename_i kvs e
      rw [RelE] at rx
      obtain ⟨_, rfl⟩ := rx
      obtain ⟨hk, hl, q⟩ := q
      obtain ⟨l, a, r⟩ := R.obj _ _ e
      obtain ⟨k', b, ek, rfl, hb⟩ := keyT_of hk ry
      have ll := RelKT.length r
      refine .inr ⟨_, _, rfl, DPut.t a hb (by omega), ?_⟩
      have E := Ex.write (o := .dT (putK l k' z)) (e' := EO.dct (dPutT kvs i v)) R e
      exact k _ q _ E (R.write e ⟨_, upd_same, RelKT.put ek (RelE.ex E _ _ rz) (r.ex E)⟩)
    · exact .inl (set_sim R rx ry rz q k)
  · exact .inl (set_sim R rx ry rz q k)
def lSetA (to ti te : LT) : LS := fun D env h => te env h fun v h1 => to env h1 fun o h2 => ti env h2 fun i h3 => setA o i v h3 fun h4 => D.nx env h4
theorem ls_setA {o i e : Expr} {to ti te : LT} {tpos : Pos} (hu : X.A.units + 1 < cLine) (he : LE X e te) (ho : LE X o to) (hi : LE X i ti) (ha : ∀ v, assign (.Subscript o i tpos) X.env v = (do
      let ov ← holding [v] (eval o X.env)
      let iv ← holding [v, ov] (eval i X.env)
      standAt tpos
      holding [v, ov, iv] (setItem ov iv v)
      release [v, ov, iv] []) := by intro _; rfl) (hs : swapsWithSole [.Subscript o i tpos] e pos.line X.env = pure false := by rfl) (hw : swappedStores [.Subscript o i tpos] e X.env = pure none := by rfl)
    (h1 : (assignEach [.Subscript o i tpos] X.env).map (·.2) = [assign (.Subscript o i tpos) X.env] := by rfl) : LSt X (.Assign [.Subscript o i tpos] e pos) (lSetA to ti te) :=
  ⟨PS.imp (ps_asg he.pe (pg_sub ho.pe hi.pe (set_any hu) ha) hs hw h1) fun D σ H ⟨m, env, h, P, at_, t1, k⟩ => ⟨m, env, h, _, at_, t1, fun v h1 p1 m1 H1 x E1 R1 r1 =>
    ⟨m1, env, h1, _, at_.ex E1 R1, p1, fun o h2 p2 m2 H2 y E2 R2 r2 => ⟨m2, env, h2, _, (at_.ex E1 R1).ex E2 R2, p2, fun i h3 p3 m3 H3 z E3 R3 r3 =>
      setA_sim R3 (RelE.ex E3 _ _ r2) r3 (RelE.ex (E2.trans E3) _ _ r1) p3 fun h4 p4 H4 E4 R4 => k.nx _ _ p4 m3 H4 σ (((E1.trans E2).trans E3).trans E4) ((((at_.ex E1 R1).ex E2 R2).ex E3 R3).ex E4 R4)⟩⟩⟩⟩
def itemsE (v : EV) (h : EH) (P : List EV → Prop) : Prop := match v with
  | .tup xs => P xs
  | .ref r => match h[r]? with
    | some (.lst xs) => P xs
    | some (.frz xs) => P xs
    | _ => False
  | _ => False
def lStar (te : LT) (t : LA) : LA := fun env h P => te env h fun v h1 => itemsE v h1 fun xs => t env h1 fun ys h2 => P (xs ++ ys) h2
theorem la_star {e : Expr} {es : List Expr} {te : LT} {t : LA} {p : Pos} (he : LE X e te) (hr : LAs X es t) (hs : starEach (.Starred e p :: es) X.env = (true, eval e X.env) :: starEach es X.env := by rfl) : LAs X (.Starred e p :: es) (lStar te t) := by
  refine ⟨PA.imp (StX.pa_star he.pe hr.pa hs) fun σ H Q ⟨m, env, h, P, at_, t1, k⟩ => ⟨m, env, h, _, at_, t1, fun v h1 p1 m1 H1 x E1 R1 r1 => ?_⟩⟩
  have fin : ∀ {xs : List EV} {a : Addr} {vs : List V}, x = .ref a → (SqT X.K H1 a vs ∨ SqL X.K H1 a vs) → RelEs X.K m1 h1.length H1 xs vs → (t env h1 fun ys h2 => P (xs ++ ys) h2) →
      ∃ p ws, x = .ref p ∧ (SqT X.K H1 p ws ∨ SqL X.K H1 p ws) ∧ upA X.K t σ H1 fun ys H2 => Q (ws ++ ys) H2 := by
    intro xs a vs ex hs r q
    exact ⟨a, vs, ex, hs, m1, env, h1, _, at_.ex E1 R1, q, fun ys h2 p2 m2 H2 ws E2 R2 r2 => k _ _ p2 m2 H2 _ (E1.trans E2) R2 ((RelEs.ex E2 _ _ r).app r2)⟩
  unfold itemsE at p1
  split at p1
  · rw [RelE] at r1
    obtain ⟨a, vs, rfl, hs, r⟩ := r1
    exact fin rfl (.inl (SqT.of hs)) r p1
  · rw [RelE] at r1
    obtain ⟨_, rfl⟩ := r1
    split at p1
    · rename_i e
      obtain ⟨vs, a, r⟩ := R1.obj _ _ e
      exact fin rfl (.inr (SqL.of a)) r p1
    · rename_i e
      obtain ⟨vs, a, r⟩ := R1.obj _ _ e
      exact fin rfl (.inr a.sql) r p1
    · exact p1.elim
  · exact p1.elim
def minE : LC := fun vs h P => match vs with
  | [.ref r] => match h[r]? with
    | some (.lst xs) => ∃ ns : List Int, xs = ns.map EV.int ∧ ns ≠ [] ∧ ∀ m, m ∈ ns → (∀ y ∈ ns, m ≤ y) → P (.int m) h
    | _ => False
  | [.int i, .int j] => P (.int (if j < i then j else i)) h
  | _ => False
theorem lc_min (hc : X.calm = true) : LCallR X (.builtin "min") minE := by
  refine ⟨_, CallR.or (cr_min hc) (call_min2 hc), fun m h H vs xs P Q R r0 q k => ?_⟩
  unfold minE at q
  split at q
  · obtain ⟨v, rfl, r⟩ := r0.one_inv
    rw [RelE] at r
    obtain ⟨_, rfl⟩ := r
    split at q
    · rename_i e
      obtain ⟨us, a, r⟩ := R.obj _ _ e
      obtain ⟨ns, rfl, ne, q⟩ := q
      have := r.ints
      subst this
      exact .inl ⟨_, ns, rfl, SqL.of a, List.length_pos_iff.mpr ne, fun z h1 h2 => k.same R (q z h1 h2) (by rw [RelE])⟩
    · exact q.elim
  · obtain ⟨v, w, rfl, r1, r2⟩ := r0.two_inv
    rw [RelE] at r1
    rw [RelE] at r2
    subst r1 r2
    exact .inr ⟨_, _, rfl, k.same R q (by rw [RelE])⟩
  · exact q.elim
theorem RelEs.bools {K : PySem.W.Frag} {m : Nat → Addr} {n : Nat} {H : Hp} : ∀ {ns : List Bool} {vs : List V}, RelEs K m n H (ns.map EV.bl) vs → vs = ns.map V.bl
  | [], _, r => by rw [List.map_nil, RelEs] at r; exact r
  | i :: l, _, r => by
    rw [List.map_cons, RelEs] at r
    obtain ⟨v, t, rfl, a, b⟩ := r
    rw [RelE] at a
    rw [a, RelEs.bools b]; rfl
def quE (f : List Bool → Bool) : LC := fun vs h P => match vs with
  | [.ref r] => match h[r]? with
    | some (.lst xs) => ∃ bs : List Bool, xs = bs.map EV.bl ∧ P (.bl (f bs)) h
    | _ => False
  | _ => False
abbrev allE : LC := quE fun bs => bs.all id
theorem lc_all (hc : X.calm = true) : LCallR X (.builtin "all") allE := by
  refine ⟨_, cr_all hc, fun m h H vs xs P Q R r0 q k => ?_⟩
  unfold allE quE at q
  split at q
  · obtain ⟨v, rfl, r⟩ := r0.one_inv
    rw [RelE] at r
    obtain ⟨_, rfl⟩ := r
    split at q
    · rename_i e
      obtain ⟨us, a, r⟩ := R.obj _ _ e
      obtain ⟨ns, rfl, q⟩ := q
      have := r.bools
      subst this
      exact ⟨_, ns, rfl, SqL.of a, k.same R q (by rw [RelE])⟩
    · exact q.elim
  · exact q.elim
end
end Y

namespace Y
open PySem PySem.Spec PyProof.Rows L2

section
variable {X : Cx} {pos : Pos}
theorem up_lc (own : List (Str × Nat)) {ti : LI} {p : Pat} {tt : LTt} {te : LT} (hp : ∀ i ∈ Pat.slots p, i ∈ own.map (·.2)) (σ : L2.St) (H : Hp) (Q : VK) (q : up X.K (lLc ti p tt te (own.map (·.2))) σ H Q) :
    tLc (upI X.K ti) (gP X.K p) (upT X.K tt) (up X.K te) (own.map (·.2)) σ H Q := by
  obtain ⟨m, env, h, P, at_, t1, k⟩ := q
  refine ⟨m, env, h, _, at_, t1, fun g xs h1 p1 m1 H1 J E1 R1 sim D hD => ?_⟩
  have E2 : Ex X.K m1 h1.length H1 (mput m1 h1.length D) (h1 ++ [EO.lst []]).length (upd H1 D (.lst [])) := Ex.new hD
  have R2 : RelH X.K (mput m1 h1.length D) (h1 ++ [EO.lst []]) (upd H1 D (.lst [])) := R1.new hD ⟨[], upd_same, .nil⟩
  refine ⟨fun i c H' => c = xs.length - i ∧ i ≤ xs.length ∧ ∃ m2 h2, Ex X.K m1 h1.length H1 m2 h2.length H' ∧ RelH X.K m2 h2 H' ∧ m2 h1.length = D ∧ h1.length < h2.length ∧ lcE g p tt te h1.length (wipeE env (own.map (·.2))) P (xs.drop i) h2,
    ⟨xs.length, by simp, Nat.zero_le _, _, _, E2, R2, mput_at, by simp, by simpa using p1⟩, ?_⟩
  rintro i c H' ⟨rfl, hi, m2, h2, E3, R3, eD, lD, q⟩
  by_cases hlt : i < xs.length
  · have ed : xs.drop i = xs[i] :: xs.drop (i + 1) := List.drop_eq_getElem_cons hlt
    rw [ed, lcE] at q
    obtain ⟨qg, q⟩ := q
    obtain ⟨s1, s2⟩ := sim i h2 m2 H' E3 R3 qg
    obtain ⟨go, yl⟩ := s1 xs[i] (List.getElem?_eq_getElem hlt)
    refine .inr ⟨go, fun H4 => ∃ m4 h4, Ex X.K m1 h1.length H1 m4 h4.length H4 ∧ RelH X.K m4 h4 H4 ∧ m4 h1.length = D ∧ h1.length < h4.length ∧ lcE g p tt te h1.length (wipeE env (own.map (·.2))) P (xs.drop (i + 1)) h4,
      fun H4 q4 => ⟨xs.length - (i + 1), by omega, rfl, hlt, q4⟩, fun v H4 y => ?_⟩
    obtain ⟨E4, R4, r4⟩ := yl v H4 y
    have E14 := (E1.trans E3).trans E4
    obtain ⟨env5, σ5, q5, f, N5, keep, len⟩ := bind_sim R4 ((at_.nm.ex E14).wipe (own.map (·.2))) r4 q
    refine f _ ⟨wipe_back (ss := Pat.slots p) keep hp (by rw [len, wipe_length]), m2, env5, h2, _, ⟨R4, N5⟩, q5, fun b h6 p6 m6 H6 E6 R6 => ?_⟩
    have E16 := (E3.trans E4).trans E6
    have lt2 := E6.le
    have eD6 : m6 h1.length = D := (E6.eq _ lD).trans eD
    cases b with
    | false =>
      dsimp only
      rw [if_neg Bool.false_ne_true] at p6 ⊢
      exact ⟨m6, h6, E16, R6, eD6, by omega, p6⟩
    | true =>
      dsimp only
      rw [if_pos rfl] at p6 ⊢
      refine ⟨m6, env5, h6, _, ⟨R6, N5.ex E6⟩, p6, fun w h7 p7 m7 H7 y7 E7 R7 r7 => ?_⟩
      have lt7 := E7.le
      have eD7 : m7 h1.length = D := (E7.eq _ (by omega)).trans eD6
      split at p7
      · rename_i acc e7
        obtain ⟨vs, a, r⟩ := R7.obj _ _ e7
        rw [eD7] at a
        refine ⟨vs, a, by rw [← r.length]; exact p7.1, ?_⟩
        have E8 := Ex.write (o := .lst (vs ++ [y7])) (e' := EO.lst (acc ++ [w])) R7 e7
        have R8 := R7.write (o := .lst (vs ++ [y7])) (e' := EO.lst (acc ++ [w])) e7 ⟨_, upd_same, (RelEs.ex E8 _ _ r).app (.one (RelE.ex E8 _ _ r7))⟩
        rw [eD7] at E8 R8
        exact ⟨m7, _, (E16.trans E7).trans E8, R8, eD7, by simp; omega, p7.2⟩
      · exact p7.elim
  · have e : i = xs.length := by omega
    subst e
    rw [List.drop_length, lcE] at q
    obtain ⟨_, s2⟩ := sim xs.length h2 m2 H' E3 R3 q.1
    refine .inl ⟨s2 rfl, k _ _ q.2 m2 H' _ (E1.trans E3) R3 (by rw [RelE]; exact ⟨lD, by rw [eD]⟩)⟩
theorem ls_setLc (i : Nat) {y : Str} {py : Pos} {elt tg iter : Expr} {ifs : List Expr} {scope : Scope} (own : List (Str × Nat)) {spos : Pos} {ti : LI} {p : Pat} {tt : LTt} {te : LT} (hc : X.calm = true) (hN : X.N.Nodup) (hi : LIt X tg iter ti) (ok : BlkOk X.N X.env.scope scope own)
    (hp : ∀ i ∈ Pat.slots p, i ∈ own.map (·.2))
    (hg : ∀ (s : Shared) (H : Hp) (C : Addr) (cl : List (Str × Addr)) (fp : List Addr), LG (X.blk s H scope (compEnvC scope cl C X.env) fp) tg p)
    (ht : ∀ (s : Shared) (H : Hp) (C : Addr) (cl : List (Str × Addr)) (fp : List Addr), LTs (X.blk s H scope (compEnvC scope cl C X.env) fp) ifs tt)
    (he : ∀ (s : Shared) (H : Hp) (C : Addr) (cl : List (Str × Addr)) (fp : List Addr), LE (X.blk s H scope (compEnvC scope cl C X.env) fp) elt te) (hy : X.N[i]? = some y := by rfl) (hyl : X.env.scope.names.lookup y = some .local := by rfl)
    (hsw : swapsWith (.ListComp elt [⟨tg, iter, ifs, 0⟩] scope pos) (some (.Name y py)) spos.line X.env = pure true := by exact sw_true rfl rfl rfl (by decide +kernel)) (hs : ∀ x, foldedSetIterable iter X.env x = pure x := by intro _; rfl) :
    LSt X (.Assign [.Name y py] (.ListComp elt [⟨tg, iter, ifs, 0⟩] scope pos) spos) (lSet (lLc ti p tt te (own.map (·.2))) i) :=
  ⟨PS.imp (ps_setLc (g := gP X.K p) (tt := upT X.K tt) (te := up X.K te) hc hN hy hyl hsw hi.pi ok (fun s H C cl fp => (hg s H C cl fp).pg) (fun s H C cl fp => (ht s H C cl fp).pts) (fun s H C cl fp => (he s H C cl fp).pe) hs) fun D σ H ⟨m, env, h, P, at_, t1, k⟩ =>
    up_lc own hp σ H _ ⟨m, env, h, fun v h1 => P.nx (env.set i (some v)) h1, at_, t1, fun v h1 p1 m1 H1 x E1 R1 r1 => k.nx _ _ p1 m1 H1 _ E1 ⟨R1, (at_.nm.ex E1).set r1 i⟩⟩⟩
end
def lAug (f : Int → Int → Int) (i : Nat) (te : LT) : LS := fun D env h => match env[i]? with
  | some (some (.int a)) => te env h fun v h1 => match v with
    | .int b => D.nx (env.set i (some (.int (f a b)))) h1
    | _ => False
  | _ => False
theorem ls_aug {X : Cx} {pos pos' : Pos} (i : Nat) {x : Str} {e : Expr} {te : LT} {op : Operator} {f : Int → Int → Int} (ho : PIp X op (ipI f)) (hN : X.N.Nodup) (he : LE X e te) (hi : X.N[i]? = some x := by rfl) (hx : Loc X.env.scope x := by first | exact Or.inl rfl | exact Or.inr rfl)
    (hf : X.fn x = true ∨ X.env.scope.names.lookup x = some .local := by first | exact .inl rfl | exact .inr rfl) : LSt X (.AugAssign (.Name x pos') op e pos) (lAug f i te) := by
  refine ⟨PS.imp (ps_aug hN hi hx he.pe ho hf) fun D σ H ⟨m, env, h, P, at_, t1, k⟩ => ?_⟩
  unfold lAug at t1
  split at t1
  · rename_i a ea
    obtain ⟨x, ex, rx⟩ := at_.nm.2 _ _ ea
    refine ⟨x, ex, m, env, h, _, at_, t1, fun v h1 p1 m1 H1 y E1 R1 r1 => ?_⟩
    split at p1
    · rw [RelE] at rx
      rw [RelE] at r1
      exact ⟨_, _, rx, r1, k.nx _ _ p1 m1 H1 _ E1 ⟨R1, (at_.nm.ex E1).set (by rw [RelE]) i⟩⟩
    · exact p1.elim
  · exact t1.elim
section
variable {X : Cx} {pos : Pos}
end
end Y

namespace Y
open PySem PySem.Spec PyProof.Rows L2

section
variable {X : Cx}
end
end Y

namespace Y
open PySem PySem.Spec PyProof.Rows L2

def putO (i : Nat) (v : EV) (vs : List (Option EV)) : List (Option EV) := (vs ++ List.replicate (i + 1 - vs.length) Option.none).set i (some v)
theorem putO_get (i : Nat) (v : EV) (vs : List (Option EV)) : (putO i v vs)[i]? = some (some v) := by
  unfold putO
  exact List.getElem?_set_self (by simp only [List.length_append, List.length_replicate]; omega)
theorem putO_ne {i j : Nat} {v x : EV} {vs : List (Option EV)} (h : j ≠ i) : (putO i v vs)[j]? = some (some x) ↔ vs[j]? = some (some x) := by
  unfold putO
  rw [List.getElem?_set_ne (Ne.symm h)]
  by_cases hj : j < vs.length
  · rw [List.getElem?_append_left hj]
  · have e1 : vs[j]? = Option.none := List.getElem?_eq_none_iff.mpr (by omega)
    rw [e1, List.getElem?_append_right (by omega), List.getElem?_replicate]
    constructor
    · intro q
      split at q <;> cases q
    · intro q
      cases q
section
variable {K : PySem.W.Frag} {m : Nat → Addr} {n : Nat} {H : Hp}
theorem sqT_upd3 {a p : Addr} {xs : List V} {o : HO} (h : SqT K H a xs) (hp : ∀ u, H p = some u → (∀ ys, u ≠ .tup ys) ∧ ∀ q ys, u ≠ .frz q (.tup ys)) : SqT K (upd H p o) a xs := by
  rcases h with h | h
  · refine .inl ?_
    have ne : a ≠ p := by
      rintro rfl
      rcases h with h | ⟨q, h⟩
      · exact (hp _ h).1 _ rfl
      · exact (hp _ h).2 _ _ rfl
    rcases h with h | ⟨q, h⟩
    · exact .inl (by rw [upd_ne ne]; exact h)
    · exact .inr ⟨q, by rw [upd_ne ne]; exact h⟩
  · exact .inr h
theorem tk_upd3 {H : Hp} {a p : Addr} {xs : List V} {o : HO} (h : H a = some (.tup xs)) (hp : ∀ u, H p = some u → ∀ ys, u ≠ .tup ys) : upd H p o a = some (.tup xs) := by
  have ne : a ≠ p := by
    rintro rfl
    exact hp _ h _ rfl
  rw [upd_ne ne]; exact h
theorem RelH.slot {h : EH} {r C dx : Nat} {vs : List (Option EV)} {ws : List (Option V)} {i : Nat} {v : EV} {x : V} (R : RelH K m h H) (hr : h[r]? = some (.slo C vs)) (S : SlX.Slt H (m r) C dx ws) (ne : dx ≠ m r) (hd : H dx = some (.own (m r)) ∨ H dx = some (.xd []))
    (rw' : ∀ (j : Nat) (v : EV), vs[j]? = some (some v) → ∃ w, ws[j]? = some (some w) ∧ RelE K m h.length H v w) (rx : RelE K m h.length H v x) :
    Ex K m h.length H m (h.set r (.slo C (putO i v vs))).length (SlX.slH H (m r) C dx (SlX.putS i x ws)) ∧ RelH K m (h.set r (.slo C (putO i v vs))) (SlX.slH H (m r) C dx (SlX.putS i x ws)) := by
  have hlt := (List.getElem?_eq_some_iff.mp hr).1
  have tops := R.tops hr
  have E : Ex K m h.length H m (h.set r (.slo C (putO i v vs))).length (SlX.slH H (m r) C dx (SlX.putS i x ws)) := by
    refine ⟨by simp, fun _ _ => rfl, fun a xs q => ?_, fun a xs q => ?_⟩
    · unfold SlX.slH
      refine sqT_upd3 (sqT_upd3 q fun u hu => ?_) fun u hu => ?_
      · rcases hd with z | z <;> rw [z] at hu <;> cases hu <;> exact ⟨fun _ z => (nomatch z), fun _ _ z => nomatch z⟩
      · rw [upd_ne (Ne.symm ne)] at hu
        exact ⟨(tops u hu).1, (tops u hu).2.1⟩
    · unfold SlX.slH
      refine tk_upd3 (tk_upd3 q fun u hu => ?_) fun u hu => ?_
      · rcases hd with z | z <;> rw [z] at hu <;> cases hu <;> exact fun _ z => nomatch z
      · rw [upd_ne (Ne.symm ne)] at hu
        exact (tops u hu).1
  refine ⟨E, ?_⟩
  have set_cases : ∀ {q : Nat} {u e' : EO}, (h.set r e')[q]? = some u → (q = r ∧ u = e') ∨ (q ≠ r ∧ h[q]? = some u) := fun {q u e'} hq => by
    by_cases z : r = q
    · subst z
      rw [List.getElem?_set_self hlt] at hq
      cases hq
      exact .inl ⟨rfl, rfl⟩
    · rw [List.getElem?_set_ne z] at hq
      exact .inr ⟨fun y => z y.symm, hq⟩
  refine ⟨fun q u hq => ?_, fun q p u v hq hp fu fv z => ?_⟩
  · rcases set_cases hq with ⟨rfl, rfl⟩ | ⟨z, hq⟩
    · have io := (R.obj _ _ hr).1
      refine ⟨io, dx, _, SlX.slH_slt ne, ne, .inr ?_, fun j y hj => ?_⟩
      · unfold SlX.slH
        rw [upd_ne ne, upd_same]
      · by_cases e : j = i
        · subst e
          rw [putO_get] at hj
          cases hj
          exact ⟨x, SlX.putS_get _ _ _, RelE.ex E _ _ rx⟩
        · obtain ⟨w, ew, r1⟩ := rw' j y ((putO_ne e).mp hj)
          exact ⟨w, (SlX.putS_ne e).mpr ew, RelE.ex E _ _ r1⟩
    · have Rq := R.obj q u hq
      have off : isF u = false → m q ≠ m r := fun fu y => z (R.inj q r u _ hq hr fu rfl y)
      by_cases fu : isF u = false
      · obtain ⟨c, hc, nt⟩ := Rq.there fu
        have nd : m q ≠ dx := by
          intro y
          rw [y] at hc
          rcases hd with z | z <;> rw [z] at hc <;> cases hc
          · exact nt.2.2.2.2 _ rfl
          · exact nt.2.2.2.1 _ rfl
        refine Rq.ex E (SlX.slH_ne (off fu) nd) fun b => ⟨fun e => ?_, fun e => ?_⟩
        · have nb : b ≠ m r := by
            rintro rfl
            exact (tops _ e).2.2.2.1 _ rfl
          unfold SlX.slH
          rw [upd_ne nb]
          by_cases y : b = dx
          · rw [y, upd_same]
          · rw [upd_ne y]; exact e
        · have nb : b ≠ m r := by
            rintro rfl
            exact (tops _ e).2.2.2.2 _ rfl
          have nd : b ≠ dx := by
            rintro rfl
            rcases hd with z | z
            · rw [z] at e
              injection e with e
              injection e with e
              exact off fu e.symm
            · rw [z] at e
              cases e
          rw [SlX.slH_ne nb nd]
          exact e
      · cases u with
        | frz xs =>
          obtain ⟨us, e, r1⟩ := Rq
          refine ⟨us, ?_, RelEs.ex E _ _ r1⟩
          rcases e with ⟨o, e⟩ | e
          · refine .inl ⟨o, ?_⟩
            have nb : m q ≠ m r := by
              intro y
              rw [y] at e
              exact (tops _ e).2.2.1 _ _ rfl
            have nd : m q ≠ dx := by
              intro y
              rw [y] at e
              rcases hd with z | z <;> rw [z] at e <;> cases e
            rw [SlX.slH_ne nb nd]
            exact e
          · exact .inr e
        | xob fs =>
          obtain ⟨l, e, r1⟩ := Rq
          refine ⟨l, ?_, RelFs.ex E _ _ r1⟩
          have nb : m q ≠ m r := by
            intro y
            rw [y] at e
            exact (tops _ e).2.2.2.1 _ rfl
          by_cases nd : m q = dx
          · rw [nd] at e ⊢
            rcases hd with z | z
            · rw [z] at e; cases e
            · rw [z] at e
              cases e
              unfold SlX.slH
              rw [upd_ne ne, upd_same]
          · rw [SlX.slH_ne nb nd]
            exact e
        | mark m0 n0 H0 => exact Ex.trans Rq E
        | _ => exact absurd rfl fu
  · rcases set_cases hq with ⟨a, a'⟩ | ⟨a, hq'⟩ <;> rcases set_cases hp with ⟨b, b'⟩ | ⟨b, hp'⟩
    · rw [a, b]
    · rw [a] at z; exact absurd (R.inj p r v _ hp' hr fv rfl z.symm) b
    · rw [b] at z; exact absurd (R.inj q r u _ hq' hr fu rfl z) a
    · exact R.inj q p u v hq' hp' fu fv z
end
abbrev STab := List (Addr × Nat)
def attrE (tab : STab) (v : EV) (h : EH) (P : EV → Prop) : Prop := match v with
  | .ref r => match h[r]? with
    | some (.slo C vs) => match tab.lookup C with
      | some i => match vs[i]? with
        | some (some x) => P x
        | _ => False
      | none => False
    | _ => False
  | _ => False
def lAttr (tab : STab) (to : LT) : LT := fun env h P => to env h fun v h1 => attrE tab v h1 fun x => P x h1
def SlotOf (K : PySem.W.Frag) (f : Str) (tab : STab) : Prop := ∀ q ∈ tab, SlX.SCls K q.1 ∧ ∃ p, SlX.Slot1 K q.1 f p q.2
def lSetAt (tab : STab) (to tv : LT) : LS := fun D env h => tv env h fun v h1 => to env h1 fun o h2 => match o with
  | .ref r => match h2[r]? with
    | some (.slo C vs) => match tab.lookup C with
      | some i => D.nx env (h2.set r (.slo C (putO i v vs)))
      | none => False
    | _ => False
  | _ => False
section
variable {X : Cx} {pos pos' apos : Pos} {o e : Expr} {es : List Expr} {to te : LT} {t : LA} {f x : Str}
theorem le_attr {tab : STab} (T : SlotOf X.K f tab) (he : LE X e te) (hb : attributeBase e f X.env (eval e X.env) = eval e X.env := by rfl) : LE X (.Attribute e f pos) (lAttr tab te) := by
  refine ⟨PE.imp (SlX.pe_sl he.pe hb) fun σ H Q ⟨m, env, h, P, at_, t1, k⟩ => ⟨m, env, h, _, at_, t1, fun v h1 p1 m1 H1 x E1 R1 r1 => ?_⟩⟩
  unfold attrE at p1
  split at p1
  · rw [RelE] at r1
    obtain ⟨_, rfl⟩ := r1
    split at p1
    · rename_i C vs e
      obtain ⟨_, dx, ws, s, _, _, r⟩ := R1.obj _ _ e
      split at p1
      · rename_i i ei
        obtain ⟨c, p, sl⟩ := T _ (lookup_mem ei)
        split at p1
        · rename_i y ey
          obtain ⟨w, ew, rw'⟩ := r _ _ ey
          exact ⟨_, C, dx, p, ws, i, w, rfl, s, c, sl, ew, k _ _ p1 m1 H1 _ E1 R1 rw'⟩
        · exact p1.elim
      · exact p1.elim
    · exact p1.elim
  · exact p1.elim
theorem ls_attr {tab : STab} (T : SlotOf X.K f tab) (ho : LE X o to) (hv : LE X e te) (hs : swapsWith e (some (.Attribute o f pos')) pos.line X.env = pure false := by rfl) : LSt X (.Assign [.Attribute o f pos'] e pos) (lSetAt tab to te) := by
  refine ⟨PS.imp (SlX.ps_sl ho.pe hv.pe hs) fun D σ H ⟨m, env, h, P, at_, t1, k⟩ => ⟨m, env, h, _, at_, t1, fun v h1 p1 m1 H1 x E1 R1 r1 => ⟨m1, env, h1, _, at_.ex E1 R1, p1, fun o h2 p2 m2 H2 y E2 R2 r2 => ?_⟩⟩⟩
  split at p2
  · rw [RelE] at r2
    obtain ⟨_, rfl⟩ := r2
    split at p2
    · rename_i C vs e
      obtain ⟨io, dx, ws, s, ne, hd, r⟩ := R2.obj _ _ e
      split at p2
      · rename_i i ei
        obtain ⟨c, p, sl⟩ := T _ (lookup_mem ei)
        have Z := R2.slot (i := i) e s ne hd r (RelE.ex E2 _ _ r1)
        exact ⟨_, C, dx, p, ws, i, rfl, s, c, sl, k.nx _ _ p2 m2 _ σ ((E1.trans E2).trans Z.1) (((at_.ex E1 R1).ex E2 R2).ex Z.1 Z.2)⟩
      · exact p2.elim
    · exact p2.elim
  · exact p2.elim
def lMake (C : Addr) (sp : LSp) (t : LA) : LT := fun env h P => t env h fun vs h1 => sp (.ref h1.length :: vs) (h1 ++ [.slo C []]) fun v h2 => v = .non ∧ P (.ref h1.length) h2
variable {k : Nat} {g C : Addr} {fd : FuncData} {ps : List Str} {sp : LSp} {p : Pos}
theorem guards_make {A : Around} (C : Addr) (us : List Value) (hG : A.guards = some []) : (A.under (.builtin "type.__call__" ⟨.ref C :: us, []⟩)).guards = some [] := by
  first | exact hG | simp [Around.under, Code.weight, Code.isCreation, Code.isGuard, Code.isCaller, Code.frames, Code.isFrame, guardIds, hG]
theorem runMk {pins : List (Addr × Obj)} {σ : L2.St} {H : Hp} {s : Shared} {Q : VK} {us : List Value} {vs : List V} (M : Mk X.K C g) (F : FnG X.prog X.w X.K X.mg X.base k g fd ps sp) (hr : Room (k + 1) X.A) (hG : X.A.guards = some []) (hb : Binds X.K fd ps [])
    (I : Inv X pins σ H s) (r : Vals vs us)
    (h : ∀ x dx, H x = none → H dx = none → dx ≠ x → upSp X.K sp (.ref x :: vs) (upd (upd H dx (.own x)) x (.ins C dx [])) (fun v H2 => v = .non ∧ Q (.ref x) H2)) :
    wpAny (model X.prog X.w) X.A (call (.ref C) us) (EP X pins σ Q) X.xe s := by
  have hq := h (s.heap.objs.size + 1) s.heap.objs.size (I.hok.fresh (Nat.le_succ _)) (I.hok.fresh (Nat.le_refl _)) (Nat.ne_of_lt (Nat.lt_succ_self _))
  have I2 := Inv.made (C := C) I
  have r2 : Vals (V.ref (s.heap.objs.size + 1) :: vs) (Value.ref (s.heap.objs.size + 1) :: us) := .cons rfl r
  have hl : (Value.ref (s.heap.objs.size + 1) :: us).length = ps.length := by
    have e := r2.length
    rw [upSp.len F.len hq] at e
    exact e.symm
  have b := hb _ (Value.ref (s.heap.objs.size + 1) :: us) I2.kIn (by rw [List.append_nil]; exact hl)
  rw [List.append_nil] at b
  refine wpAny_call (make_map (f := g) I.kIn M.makes M.init (beq_iff_eq.mp M.fn) (codeAny_mono (F.run _ X.stack _ _ ⟨Value.ref (s.heap.objs.size + 1) :: us, []⟩ (Value.ref (s.heap.objs.size + 1) :: us) _ _ (hr.make C us []) (guards_make C us hG)
    (I2.env0.make C us []) b r2 hq) fun r s' hq' => ?_))
  match r, hq' with
  | .error _, ho => exact ho.elim
  | .ok (.ret u), ho =>
    obtain ⟨v, H', I3, rv, ev, q3⟩ := I2.after ho
    subst ev
    exact ⟨rv, ⟨V.ref (s.heap.objs.size + 1), H', I3, rfl, q3⟩⟩
  | .ok .next, ho => exact ho.elim
  | .ok .brk, ho => exact ho.elim
  | .ok .cont, ho => exact ho.elim
theorem up_make {K : PySem.W.Frag} (io : IsiOk K C) (σ : L2.St) (H : Hp) (Q : VK) (q : up K (lMake C sp t) σ H Q) : upA K t σ H fun vs H1 => ∀ x dx, H1 x = none → H1 dx = none → dx ≠ x → upSp K sp (.ref x :: vs) (upd (upd H1 dx (.own x)) x (.ins C dx [])) (fun v H2 => v = .non ∧ Q (.ref x) H2) := by
  obtain ⟨m, env, h, P, at_, t1, k⟩ := q
  refine ⟨m, env, h, _, at_, t1, fun vs h1 p1 m1 H1 xs E1 R1 r1 x dx hx hdx ne => ?_⟩
  have E2 : Ex K m1 h1.length H1 m1 h1.length (upd H1 dx (.own x)) := Ex.tup1 hdx
  have R2 := R1.tup (o := .own x) hdx
  have hx2 : upd H1 dx (.own x) x = none := by rw [upd_ne (Ne.symm ne)]; exact hx
  have E3 : Ex K m1 h1.length (upd H1 dx (.own x)) (mput m1 h1.length x) (h1 ++ [EO.slo C []]).length (upd (upd H1 dx (.own x)) x (.ins C dx [])) := Ex.new hx2
  have R3 : RelH K (mput m1 h1.length x) (h1 ++ [EO.slo C []]) (upd (upd H1 dx (.own x)) x (.ins C dx [])) := R2.new hx2 ⟨io, dx, [], .inl ⟨upd_same, rfl⟩, ne, .inl (by rw [upd_ne ne, upd_same]), fun i v q => by simp at q⟩
  have E := E2.trans E3
  refine ⟨mput m1 h1.length x, _, _, _, R3, .cons (by rw [RelE]; exact ⟨by simp, by rw [mput_at]⟩) (RelEs.ex E _ _ r1), p1, fun v h2 p2 m2 H2 y E4 R4 r4 => ?_⟩
  obtain ⟨rfl, p2⟩ := p2
  rw [RelE] at r4
  refine ⟨r4, k _ _ p2 m2 H2 _ ((E1.trans E).trans E4) R4 ?_⟩
  have lt := E4.le
  simp only [List.length_append, List.length_singleton] at lt
  rw [RelE]
  refine ⟨by omega, ?_⟩
  rw [E4.eq h1.length (by simp), mput_at]
theorem le_make0 (io : IsiOk X.K C) (M : Mk X.K C g) (F : FnG X.prog X.w X.K X.mg X.base k g fd ps sp) (hr : Room (k + 1) X.A) (hG : X.A.guards = some []) (hg : Gl X x) (hm : X.mg x = some (.ref C)) (hb : Binds X.K fd ps [])
    (hdb : (x == ("__debug__" : Str)) = false := by decide) : LE X (.Call (.Name x p) [] [] pos) (lMake C sp lNil) := by
  refine ⟨⟨fun pins s σ H Q I q => wpAny_Call_Name_kw (ld_glob I hg hm (PySem.W.callWith_K0 I.kIn M.kp (runMk (us := []) (vs := []) M F hr hG hb I .nil ?_)) hdb)⟩⟩
  obtain ⟨m, env, h, P, at_, t1, kk⟩ := up_make io σ H Q q
  exact kk [] h t1 m H [] .refl at_.hp .nil
def MetOf (X : Cx) (m : Str) (mt : Addr → Option LSp) : Prop := ∀ C sp, mt C = some sp → SlX.SCls X.K C ∧ ∃ g k fd ps, Meth X.K C m g ∧ FnG X.prog X.w X.K X.mg X.base k g fd ps sp ∧ Room k X.A ∧ Binds X.K fd ps []
def metK (mt : Addr → Option LSp) (t : LA) (env : En) (P : EK) (v : EV) (h1 : EH) : Prop := match v with
  | .ref r => match h1[r]? with
    | some (.slo C _) => match mt C with
      | some sp => t env h1 fun vs h2 => sp (.ref r :: vs) h2 P
      | none => False
    | _ => False
  | _ => False
def lMet (mt : Addr → Option LSp) (to : LT) (t : LA) : LT := fun env h P => to env h fun v h1 => metK mt t env P v h1
theorem le_met0 {mt : Addr → Option LSp} {m : Str} {pl : Sem Bool} (T : MetOf X m mt) (hG : X.A.guards = some []) (ho : LE X o to)
    (ht : eval (.Call (.Attribute o m apos) [] [] pos) X.env = (do
      let ov ← eval o X.env
      standAt apos.atName
      let (f, first) ← holding [ov] (getMethod ov m pl)
      callWith pos f first (backTo pos (starEach [] X.env)) (backToKw pos (keywordEach [] X.env))) := by rfl) :
    LE X (.Call (.Attribute o m apos) [] [] pos) (lMet mt to lNil) := by
  refine ⟨⟨fun pins s σ H Q I ⟨mm, env, h, P, at_, t1, k⟩ => ?_⟩⟩
  have hq : up X.K to σ H (fun x H1 => ∃ m1 h1 v, metK mt lNil env P v h1 ∧ Ex X.K mm h.length H m1 h1.length H1 ∧ RelH X.K m1 h1 H1 ∧ RelE X.K m1 h1.length H1 v x) := ⟨mm, env, h, _, at_, t1, fun v h1 p1 m1 H1 x E1 R1 r1 => ⟨m1, h1, v, p1, E1, R1, r1⟩⟩
  refine PySem.W.methodCall_KW (pl := pl) (thn (ho.pe.run pins s σ H _ I hq) fun u s1 ⟨x, H1, I1, rx, m1, h1, v, p1, E1, R1, r1⟩ => ?_) ht
  unfold metK at p1
  split at p1
  · rename_i r
    have r0 := r1
    rw [RelE] at r1
    obtain ⟨hlt, rfl⟩ := r1
    split at p1
    · rename_i C vs e
      obtain ⟨_, dx, ws, sl, _, _, _⟩ := R1.obj _ _ e
      split at p1
      · rename_i sp es
        obtain ⟨c, g, kk, fd, ps, hm, F, hr, hb⟩ := T _ _ es
        obtain rfl : u = Value.ref (m1 r) := rx
        refine SlX.getmethsl_ok I1 sl c hm ?_
        exact PySem.W.callWith_K0 (first := [.ref (m1 r)]) I1.kIn hm.kp (runG (us := [.ref (m1 r)]) (vs := [.ref (m1 r)]) F hr hG hb I1 (.cons rfl .nil) ⟨m1, h1, _, P, R1, .one r0, p1, k.ex E1⟩)
      · exact p1.elim
    · exact p1.elim
  · exact p1.elim
end
end Y

namespace Y
open PySem PySem.Spec PyProof.Rows L2

theorem RelKV.at {K : PySem.W.Frag} {m : Nat → Addr} {n : Nat} {H : Hp} : ∀ {es : List (EV × EV)} {l : List (L2.Key × V)} {i : Nat} {p : EV × EV}, RelKV K m n H es l → es[i]? = some p → ∃ k v, l[i]? = some (k, v) ∧ RelE K m n H p.1 (kV k) ∧ RelE K m n H p.2 v
  | [], l, i, p, r, e => by simp at e
  | (a, x) :: es, l, 0, p, r, e => by
    rw [RelKV] at r
    obtain ⟨k, v, l', rfl, ra, rx, r⟩ := r
    simp at e
    subst e
    exact ⟨k, v, rfl, ra, rx⟩
  | (a, x) :: es, l, i + 1, p, r, e => by
    rw [RelKV] at r
    obtain ⟨k, v, l', rfl, ra, rx, r⟩ := r
    obtain ⟨k2, v2, e2, b⟩ := RelKV.at (i := i) r (by simpa using e)
    exact ⟨k2, v2, by simpa using e2, b⟩
def tyE (v : EV) (h : EH) : Option String := match v with
  | .non => some "NoneType"
  | .bl _ => some "bool"
  | .int _ => some "int"
  | .str _ => some "str"
  | .ref r => match h[r]? with
    | some (.lst _) => some "list"
    | some (.dic _) => some "dict"
    | some (.slo _ _) => some "?"
    | _ => none
  | .tup _ => some "tuple"
  | .ktup _ => some "tuple"
  | _ => none
def isiB (t T : String) : Bool := t == T || (t == "bool" && T == "int")
def isiE : LC := fun vs h P => match vs with
  | [v, .ty T] => match tyE v h with
    | some t => (T = "int" ∨ T = "bool" ∨ T = "str" ∨ T = "tuple" ∨ T = "dict" ∨ T = "list") ∧ P (.bl (isiB t T)) h
    | none => False
  | _ => False
theorem isi_tab : ∀ t ∈ ["NoneType", "bool", "int", "str", "list", "dict", "tuple"], ∀ T ∈ ["int", "bool", "str", "tuple", "dict", "list"], kitB t T = some (isiB t T) := by decide +kernel
theorem le_bty {X : Cx} {x : Str} {pos : Pos} (T : String) (hg : Gl X x) (hm : X.mg x = none) (hv : bootBuiltins x = some (.type T)) (hn : x ≠ "__name__" := by decide) (hdb : (x == ("__debug__" : Str)) = false := by decide) : LE X (.Name x pos) (lC (.ty T)) :=
  ⟨⟨fun pins s σ H Q I ⟨m, env, h, P, at_, t1, k⟩ => ld_blt I hg hm hv (s := s) ⟨.ty T, H, I, rfl, k _ _ t1 m H _ .refl at_.hp (by rw [RelE])⟩ hn hdb⟩⟩
section
open PySem.W
variable {prog : Program} {w : World} {A : Around} {E : Value → Shared → Prop} {s : Shared} {K : PySem.W.Frag} {x D : Addr} {ox od : Obj}
theorem cls_some (h : isClsIn K D = true) : ∃ cd, clsIn K D = some cd := Option.isSome_iff_exists.mp h
theorem kin_class2 {Q : Option Value → Shared → Prop} (io : IsiOk K D) (X : K.In s.heap) (I : InstAt s.heap x ox D (some od)) (h : Q (some (.ref D)) { s with toks := s.toks + 1 }) : wpAny (model prog w) A (getAttr? (.ref x) "__class__") Q E s := by
  have hf : findObj K D (some od) "__class__" = some (.bind (.builtin "getset_descriptor.__get__") (.builtin "object.__class__")) := findObj_data (by obtain ⟨cd, hc⟩ := cls_some io.ic; rw [hc]; rfl) io.cl io.gt io.tk
  exact kin_open X I (plainGet_of io.pg).1 (kin_hooked (s := { s with toks := s.toks + 1 }) X I hf (plainGet_of io.pg).2
    (wpAny_call (class_get (s := { s with toks := s.toks + 1 }) (ox := ox) (od := some od) X I io.mo (handed_on rfl h))))
theorem kitx_own2 (io : IsiOk K D) : KitX K (.ref x) (.ref D) (fun h => InstAt h x ox D (some od)) where
  ty := fun _ _ _ I => I.type
  it := fun _ _ X _ => by
    obtain ⟨cdD, hcD⟩ := cls_some io.ic
    unfold clsIn at hcD
    split at hcD
    · rename_i c' d' cd' sl' ho
      intro A' Q' E' s' k q
      unfold isType loadHead
      exact wpAny_bind (wpAny_loadPart (k _ _ (X _ _ ho)) (wpAny_pure q))
    · cases hcD
  ne := fun h tp dd its n sl X htp => by
    obtain ⟨cdD, hcD⟩ := cls_some io.ic
    refine Bool.eq_false_iff.mpr fun q => ?_
    have e : D = tp := Value.ref.inj (beq_iff_eq.mp q)
    subst e
    unfold clsIn at hcD
    split at hcD
    · rename_i c' d' cd' sl' ho
      have z := (X _ _ ho).symm.trans htp
      cases z
    · cases hcD
  ca := fun X I k => kin_class2 io X I k
end
def IsSl (K : PySem.W.Frag) (H : Hp) (a C : Addr) : Prop := IsiOk K C ∧ ∃ dx ws, SlX.Slt H a C dx ws ∧ (H dx = some (.own a) ∨ H dx = some (.xd []))
theorem IsSl.at {X : Cx} {pins : List (Addr × Obj)} {σ : L2.St} {H : Hp} {s : Shared} {a C : Addr} (I : Inv X pins σ H s) (z : IsSl X.K H a C) : ∃ ox od, PySem.W.InstAt s.heap a ox C (some od) := by
  obtain ⟨io, dx, ws, sl, hd⟩ := z
  have hdx : ∃ od, s.heap.get? dx = some od := by
    rcases hd with hd | hd
    · exact I.hok dx _ hd
    · obtain ⟨mA, ⟨od, es, ep, e, _⟩, _⟩ := I.hok dx _ hd
      exact ⟨od, e⟩
  obtain ⟨od, hod⟩ := hdx
  rcases sl with ⟨e, _⟩ | ⟨e, _⟩
  · obtain ⟨d, _, ne, e1, _⟩ := I.hok a _ e
    exact ⟨_, od, e1, rfl, rfl, hod⟩
  · have e' := I.hok a _ e
    unfold SlX.SlO at e'
    obtain ⟨⟨sl, e1, _⟩, _⟩ := e'
    exact ⟨_, od, e1, rfl, rfl, hod⟩
def rIsiS (K : PySem.W.Frag) : List V → Hp → VK → Prop := fun xs H Q => ∃ a C T, xs = [.ref a, .ty T] ∧ IsSl K H a C ∧ T ∈ ["int", "bool", "str", "tuple", "dict", "list"] ∧ Q (.bl false) H
theorem call_isiS {X : Cx} : CallR X (.builtin "isinstance") (rIsiS X.K) := by
  intro pins s σ H xs us Q I r h
  obtain ⟨a, C, T, rfl, z, hT, q⟩ := h
  obtain ⟨u1, u2, rfl, r1, r2⟩ := vals2 r
  cases (show u1 = Value.ref a from r1)
  cases (show u2 = Value.type T from r2)
  obtain ⟨ox, od, J⟩ := z.at I
  exact PySem.W.kia_one (kitx_own2 z.1) I.kIn J (z.1.ty T hT) (fun y => nomatch y) fun tk => ⟨.bl false, H, I.tok tk, rfl, q⟩
theorem lc_isi {X : Cx} : LCallR X (.builtin "isinstance") isiE := by
  refine ⟨_, CallR.or call_isi call_isiS, fun m h H vs xs P Q R r0 q k => ?_⟩
  unfold isiE at q
  split at q
  · obtain ⟨x, y, rfl, r1, r2⟩ := r0.two_inv
    rw [RelE] at r2
    subst r2
    split at q
    · rename_i v T _ t et
      have hT : T ∈ ["int", "bool", "str", "tuple", "dict", "list"] := by
        rcases q.1 with z | z | z | z | z | z <;> rw [z] <;> simp
      by_cases hs : t = "?"
      · subst hs
        refine .inr ?_
        obtain ⟨r, C, vs, rfl, e⟩ : ∃ r C vs, v = .ref r ∧ h[r]? = some (.slo C vs) := by
          unfold tyE at et
          split at et <;> first
            | (rename_i r; split at et <;> first | (rename_i C vs e; exact ⟨r, C, vs, rfl, e⟩) | (simp at et; done))
            | (simp at et; done)
        rw [RelE] at r1
        obtain ⟨_, rfl⟩ := r1
        obtain ⟨io, dx, ws, sl, _, hd, _⟩ := R.obj _ _ e
        have qf : isiB "?" T = false := by
          simp only [List.mem_cons, List.not_mem_nil, or_false] at hT
          rcases hT with z | z | z | z | z | z <;> rw [z] <;> rfl
        rw [qf] at q
        exact ⟨_, _, T, rfl, ⟨io, dx, ws, sl, hd⟩, hT, k.same R q.2 (by rw [RelE])⟩
      have ty : TyX X.K H x (.type t) := by
        unfold tyE at et
        split at et
        · rw [RelE] at r1; subst r1; cases et; exact .base .non
        · rw [RelE] at r1; subst r1; cases et; exact .base (.bl _)
        · rw [RelE] at r1; subst r1; cases et; exact .base (.int _)
        · rw [RelE] at r1; subst r1; cases et; exact .base (.str _)
        · rw [RelE] at r1
          obtain ⟨_, rfl⟩ := r1
          split at et
          · rename_i e
            obtain ⟨us, a, _⟩ := R.obj _ _ e
            cases et; exact .base (.lst a)
          · rename_i e
            obtain ⟨us, a, _⟩ := R.obj _ _ e
            cases et; exact .base (.dK a)
          · cases et; exact absurd rfl hs
          · cases et
        · rw [RelE] at r1
          obtain ⟨a, us, rfl, ha, _⟩ := r1
          cases et
          exact .base (.tup ha)
        · rw [RelE] at r1
          obtain ⟨a, us, rfl, ha, _⟩ := r1
          cases et
          rcases ha with (ha | ⟨o, ha⟩) | ⟨o, its, n, hk, hc, _⟩
          · exact .base (.tup ha)
          · exact .fTuple ha
          · exact .kTuple hk hc
        · cases et
      have ht : t ∈ ["NoneType", "bool", "int", "str", "list", "dict", "tuple"] := by
        unfold tyE at et
        split at et <;> first | (cases et; simp; done) | (cases et; done) | (split at et <;> first | (cases et; simp; done) | (cases et; done) | (cases et; exact absurd rfl hs))
      exact .inl ⟨x, _, _, _, _, rfl, .ty T, ty, kit_ty (isi_tab t ht T hT), k.same R q.2 (by rw [RelE])⟩
    · exact q.elim
  · exact q.elim
end Y

namespace Y
open PySem PySem.Spec PyProof.Rows L2

section
variable {X : Cx} {pos : Pos}
end
def sclsB (K : PySem.W.Frag) (C : Addr) : Bool := PySem.W.plainGet K C Str.empty && (PySem.W.isClsIn K C && (PySem.W.plainOver K C && He.eqO (PySem.W.findIn K (.ref C) "__setattr__") (some (some (.builtin "object.__setattr__")))))
theorem sclsB_ok {K : PySem.W.Frag} {C : Addr} (h : sclsB K C = true) : SlX.SCls K C := by
  obtain ⟨h1, h⟩ := He.ba h
  obtain ⟨h2, h⟩ := He.ba h
  obtain ⟨h3, h⟩ := He.ba h
  exact ⟨h1, h2, h3, He.eqO_ok h⟩
def slotB (K : PySem.W.Frag) (C : Addr) (f : Str) (i : Nat) : Bool := match PySem.W.findIn K (.ref C) f with
  | some (some (.ref p)) => He.eqO (PySem.W.specialIn K (.ref p) "__get__") (some (some (.builtin "member_descriptor.__get__"))) && (decide (PySem.W.takesIn K (.ref p) = some true) && (decide (PySem.W.typeIn K (.ref p) = some (.type "member_descriptor")) && (decide (PySem.W.slotIn K p C = some i) && decide (i < 1000))))
  | _ => false
theorem slotB_ok {K : PySem.W.Frag} {C : Addr} {f : Str} {i : Nat} (h : slotB K C f i = true) : ∃ p, SlX.Slot1 K C f p i := by
  unfold slotB at h
  split at h
  · rename_i p e
    obtain ⟨h1, h⟩ := He.ba h
    obtain ⟨h2, h⟩ := He.ba h
    obtain ⟨h3, h⟩ := He.ba h
    obtain ⟨h4, h⟩ := He.ba h
    exact ⟨p, e, He.eqO_ok h1, of_decide_eq_true h2, of_decide_eq_true h3, of_decide_eq_true h4, of_decide_eq_true h⟩
  · cases h
def isiOkB (K : PySem.W.Frag) (C : Addr) : Bool := PySem.W.plainGet K C "__class__" && (PySem.W.isClsIn K C && (He.eqO (PySem.W.findIn K (.ref C) "__class__") (some (some (.builtin "object.__class__"))) && (He.eqO (PySem.W.specialIn K (.builtin "object.__class__") "__get__") (some (some (.builtin "getset_descriptor.__get__"))) && (decide (PySem.W.takesIn K (.builtin "object.__class__") = some true) && (decide (PySem.W.mroIn K C (.type "object") = some true) && ["int", "bool", "str", "tuple", "dict", "list"].all fun T => decide (PySem.W.kitOne K (.ref C) (.type T) = some false))))))
theorem isiOkB_ok {K : PySem.W.Frag} {C : Addr} (h : isiOkB K C = true) : IsiOk K C := by
  obtain ⟨h1, h⟩ := He.ba h
  obtain ⟨h2, h⟩ := He.ba h
  obtain ⟨h3, h⟩ := He.ba h
  obtain ⟨h4, h⟩ := He.ba h
  obtain ⟨h5, h⟩ := He.ba h
  obtain ⟨h6, h⟩ := He.ba h
  exact ⟨h1, h2, He.eqO_ok h3, He.eqO_ok h4, of_decide_eq_true h5, of_decide_eq_true h6, fun T hT => of_decide_eq_true (List.all_eq_true.mp h T hT)⟩
end Y
namespace Y
open PySem PySem.Spec PyProof.Rows L2
theorem slot1 {K : PySem.W.Frag} {C : Addr} {f : Str} {i : Nat} (c : SlX.SCls K C) (s : ∃ p, SlX.Slot1 K C f p i) : SlotOf K f [(C, i)] := by
  intro q hq
  rw [List.mem_singleton.mp hq]
  exact ⟨c, s⟩
theorem met1 {X : Cx} {C g : Addr} {m : Str} {sp : LSp} {k : Nat} {fd : FuncData} {ps : List Str} (c : SlX.SCls X.K C) (hm : Meth X.K C m g) (F : FnG X.prog X.w X.K X.mg X.base k g fd ps sp) (hr : Room k X.A) (hb : Binds X.K fd ps []) :
    MetOf X m (List.lookup · [(C, sp)]) := by
  intro D sp' e
  have q := lookup_mem (show List.lookup D [(C, sp)] = some sp' from e)
  have e2 := List.mem_singleton.mp q
  cases e2
  exact ⟨c, g, k, fd, ps, hm, F, hr, hb⟩
end Y

namespace Y
open PySem PySem.Spec PyProof.Rows L2

def lPairs : List (LT × LT) → En → EH → (List (EV × EV) → EH → Prop) → Prop
  | [], _, h, P => P [] h
  | (tk, tv) :: r, env, h, P => tk env h fun x h1 => tv env h1 fun y h2 => lPairs r env h2 fun ps h3 => P ((x, y) :: ps) h3
def RelPs (K : PySem.W.Frag) (m : Nat → Addr) (n : Nat) (H : Hp) : List (EV × EV) → List (V × V) → Prop
  | [], l => l = []
  | (x, y) :: r, l => ∃ a b l', l = (a, b) :: l' ∧ RelE K m n H x a ∧ RelE K m n H y b ∧ RelPs K m n H r l'
def liftP (K : PySem.W.Frag) (trs : List (LT × LT)) : List (TE × TE) := trs.map fun q => (up K q.1, up K q.2)
theorem pairs_sim {K : PySem.W.Frag} : ∀ (trs : List (LT × LT)) (σ : L2.St) (H : Hp) (m : Nat → Addr) (env : En) (h : EH) (P : List (EV × EV) → EH → Prop) (Q : List (V × V) → Hp → Prop), At K env h m σ H → lPairs trs env h P →
    (∀ ps h', P ps h' → ∀ (m' : Nat → Addr) (H' : Hp) vs, Ex K m h.length H m' h'.length H' → RelH K m' h' H' → RelPs K m' h'.length H' ps vs → Q vs H') → tPairs (liftP K trs) σ H Q
  | [], σ, H, m, env, h, P, Q, at_, p, k => k [] h p m H [] .refl at_.hp rfl
  | (tk, tv) :: r, σ, H, m, env, h, P, Q, at_, p, k => by
    refine ⟨m, env, h, _, at_, p, fun x h1 p1 m1 H1 u E1 R1 r1 => ⟨m1, env, h1, _, at_.ex E1 R1, p1, fun y h2 p2 m2 H2 w E2 R2 r2 => ?_⟩⟩
    refine pairs_sim r σ H2 m2 env h2 _ _ ((at_.ex E1 R1).ex E2 R2) p2 fun ps h3 p3 m3 H3 vs E3 R3 r3 => ?_
    exact k _ _ p3 m3 H3 _ ((E1.trans E2).trans E3) R3 ⟨u, w, vs, rfl, RelE.ex (E2.trans E3) _ _ r1, RelE.ex E3 _ _ r2, r3⟩
def dAll (ps : List (EV × EV)) : List (EV × EV) := ps.foldl (fun acc p => dPut acc p.1 p.2) []
theorem relPs_keys {K : PySem.W.Frag} {m : Nat → Addr} {n : Nat} {H : Hp} : ∀ {ps : List (EV × EV)} {vs : List (V × V)}, (∀ p ∈ ps, isKey p.1) → RelPs K m n H ps vs → ∃ kvs : List (L2.Key × V), vs = kvs.map (fun kv => (kV kv.1, kv.2)) ∧ RelKV K m n H ps kvs
  | [], vs, _, r => by rw [RelPs] at r; subst r; exact ⟨[], rfl, rfl⟩
  | (x, y) :: ps, vs, hk, r => by
    rw [RelPs] at r
    obtain ⟨a, b, l, rfl, ra, rb, r⟩ := r
    obtain ⟨k, rfl⟩ := key_of (hk (x, y) (by simp)) ra
    obtain ⟨kvs, rfl, r2⟩ := relPs_keys (fun p hp => hk p (List.mem_cons_of_mem _ hp)) r
    exact ⟨(k, b) :: kvs, rfl, by rw [RelKV]; exact ⟨k, b, kvs, rfl, ra, rb, r2⟩⟩
theorem relKV_merge {K : PySem.W.Frag} {m : Nat → Addr} {n : Nat} {H : Hp} : ∀ {ps : List (EV × EV)} {kvs : List (L2.Key × V)} {acc : List (EV × EV)} {l : List (L2.Key × V)}, (∀ p ∈ ps, isKey p.1) → RelKV K m n H ps kvs → RelKV K m n H acc l →
    RelKV K m n H (ps.foldl (fun acc p => dPut acc p.1 p.2) acc) (mergeK l kvs)
  | [], kvs, acc, l, _, r, ra => by rw [RelKV] at r; subst r; exact ra
  | (x, y) :: ps, kvs, acc, l, hk, r, ra => by
    rw [RelKV] at r
    obtain ⟨k, v, l', rfl, r1, r2, r⟩ := r
    rw [List.foldl_cons]
    show RelKV K m n H _ (mergeK (putK l k v) l')
    exact relKV_merge (fun p hp => hk p (List.mem_cons_of_mem _ hp)) r (RelKV.put r1 (hk (x, y) (by simp)) r2 ra)
def lDisp (trs : List (LT × LT)) : LT := fun env h P => lPairs trs env (h ++ [.dic []]) fun ps h2 => h2[h.length]? = some (.dic []) ∧ (∀ p ∈ ps, isKey p.1) ∧ ps.length ≤ 15 ∧ P (.ref h.length) (h2.set h.length (.dic (dAll ps)))
structure LPs (X : Cx) (pos : Pos) (keys : List (Option Expr)) (values : List Expr) (trs : List (LT × LT)) : Prop where
  pps : PPs X pos keys values (liftP X.K trs)
section
variable {X : Cx} {pos : Pos}
theorem lps_nil : LPs X pos [] [] [] := ⟨pps_nil⟩
theorem lps_cons {k v : Expr} {ks : List (Option Expr)} {vs : List Expr} {tk tv : LT} {trs : List (LT × LT)} (hk : LE X k tk) (hv : LE X v tv) (hr : LPs X pos ks vs trs) : LPs X pos (some k :: ks) (v :: vs) ((tk, tv) :: trs) := ⟨pps_cons hk.pe hv.pe hr.pps⟩
theorem le_disp {keys : List (Option Expr)} {values : List Expr} {trs : List (LT × LT)} (h : LPs X pos keys values trs) (hall : keys.all (·.isSome) = true := by rfl) (hl : keys.length = values.length := by rfl) (h0 : keys ≠ [] := by exact List.cons_ne_nil _ _) (h15 : keys.length ≤ 15 := by decide) :
    LE X (.Dict keys values pos) (lDisp trs) := by
  refine ⟨PE.imp (pe_disp h.pps hall hl h0 h15) fun σ H Q ⟨m, env, h, P, at_, t1, k⟩ p hp => ?_⟩
  have E : Ex X.K m h.length H (mput m h.length p) (h ++ [EO.dic []]).length (upd H p (.dK [])) := Ex.new hp
  have R : RelH X.K (mput m h.length p) (h ++ [EO.dic []]) (upd H p (.dK [])) := at_.hp.new hp ⟨[], upd_same, rfl⟩
  refine pairs_sim trs σ _ _ env _ _ _ (at_.ex E R) t1 fun ps h2 p2 m2 H2 vs E2 R2 r2 => ?_
  obtain ⟨e2, hk, h15, p2⟩ := p2
  have em : m2 h.length = p := (E2.eq _ (by simp)).trans mput_at
  obtain ⟨l, a, rl⟩ := R2.obj _ _ e2
  rw [em] at a
  rw [RelKV] at rl
  subst rl
  obtain ⟨kvs, rfl, rk⟩ := relPs_keys hk r2
  have ll := RelKV.length rk
  refine ⟨a, kvs, rfl, by omega, ?_⟩
  have E3 := Ex.write (o := .dK (mergeK [] kvs)) (e' := EO.dic (dAll ps)) R2 e2
  have R3 := R2.write (o := .dK (mergeK [] kvs)) (e' := EO.dic (dAll ps)) e2 ⟨_, upd_same, relKV_merge hk (rk.ex E3) rfl⟩
  rw [em] at E3 R3
  have lt := E2.le
  simp only [List.length_append, List.length_singleton] at lt
  exact k _ _ p2 m2 _ _ ((E.trans E2).trans E3) R3 (by rw [RelE]; exact ⟨by simp; omega, by rw [em]⟩)
end
section
variable {X : Cx} {a b : Expr} {ta tb : LT} {p p2 q pos : Pos}
end
theorem u1 {k : Nat} {A : Around} (r : Room k A) : A.units + 1 < cLine := by have := r.un; omega
theorem u65 {k : Nat} {A : Around} (r : Room k A) : A.units + 65 < cLine := by have := r.un; omega
theorem sa_l {h : EH} {b : Nat} {xs : List EV} {i : Int} {v : EV} {k : Nat} {p : EH → Prop} (e : h[b]? = some (.lst xs)) (a : ixN xs.length i = some k) (q : p (h.set b (.lst (xs.set k v)))) : setA (.ref b) (.int i) v h p := by
  unfold setA; simp only [e]; exact set_l e a q
end Y

namespace Y
open PySem PySem.Spec PyProof.Rows L2

def noTup : Sc → Prop
  | .tup _ => False
  | _ => True
theorem piN {X : Cx} {e : Expr} {ta : TA} {p pos tpos : Pos} {elts : List Expr} {kk : Nat} (hg : Gl X "enumerate") (hm : X.mg "enumerate" = none) (ha : PA X [e] ta) (hs : starEach [e] X.env = [(false, eval e X.env)] := by rfl) :
    PI X (.Tuple elts kk tpos) (.Call (.Name "enumerate" p) [e] [] pos) (fun σ H R => ta σ H fun vs H1 => ∃ (a : Sc) (xs : List V), noTup a ∧ vs = [a.val] ∧ a.is X.K H1 xs ∧ R (ItN X.K a 0) H1) := by
  refine ⟨fun pins s σ H R I h => ?_⟩
  refine Call_ (ld_blt I hg hm PyProof.Rows.boot_enumerate (PyProof.Rows.callWith_type1 (thn (ha.run pos pins s σ H _ I h) fun us s1 ⟨vs, H1, I1, r1, q1⟩ => ?_) hs rfl))
  obtain ⟨a, xs, nt, ex, hq, q⟩ := q1
  subst ex
  cases r1 with
  | cons r rr =>
    cases rr
    have fin : ∀ h' : Heap, IsEnum h' (s1.heap.objs.size + 1) s1.heap.objs.size 0 .none → a.st s1.heap.objs.size 0 h' → (∀ b o, s1.heap.get? b = some o → h'.get? b = some o) → (∀ b ∈ a.cell, b < s1.heap.objs.size) →
        PIE X pins σ (.Tuple elts kk tpos) R (.ref (s1.heap.objs.size + 1)) { s1 with heap := h' } := by
      intro h' he st hk hc
      have I2 : Inv X pins σ H1 { s1 with heap := h' } := I1.kept (t' := s1.toks) hk
      have n1 : s1.heap.objs.size ∉ a.cell := fun z => Nat.lt_irrefl _ (hc _ z)
      have n2 : s1.heap.objs.size + 1 ∉ s1.heap.objs.size :: a.cell := fun z => by
        rcases List.mem_cons.mp z with z | z
        · exact absurd z (Nat.succ_ne_self _)
        · exact absurd (hc _ z) (Nat.not_lt.mpr (Nat.le_succ _))
      refine ⟨s1.heap.objs.size + 1, [s1.heap.objs.size + 1, s1.heap.objs.size], _, _, H1, rfl, I2, turnN (k := 0) (Nat.succ_ne_self _) n2 n1, ⟨⟨.none, he⟩, st⟩, fun b hb => ?_, q⟩
      have e' : b = s1.heap.objs.size + 1 ∨ b = s1.heap.objs.size := by simpa using hb
      have hle : s1.heap.objs.size ≤ b := by
        rcases e' with z | z
        · rw [z]; exact Nat.le_add_right _ _
        · rw [z]; exact Nat.le_refl _
      exact I1.fpOk hle (I1.hok.fresh hle)
    match a, nt, hq, r, fin with
    | .lst l, _, hq, r, fin =>
      obtain ⟨its, rv, p', hz⟩ := I1.list hq
      cases r
      refine call_enumerate_list p'.isList fun h' he hit hsz hk => wpAny_pyIter_enum he (fin h' he hit hk fun b hb => ?_)
      have e : b = l := by simpa [Sc.cell] using hb
      rw [e]; exact p'.lt
    | .txt x, _, hq, r, fin =>
      obtain ⟨t, rfl⟩ := r
      exact call_enumerate_str fun h' he hit hsz hk => wpAny_pyIter_enum he (fin h' he ⟨t, hit⟩ hk fun b hb => by simp [Sc.cell] at hb)
def numE (xs : List EV) (k : Int) : List EV := (List.range xs.length).zipWith (fun (i : Nat) x => EV.tup [.int (k + i), x]) xs
def notTupE : EV → Prop
  | .tup _ => False
  | .ktup _ => False
  | _ => True
theorem src_simN {K : PySem.W.Frag} {m : Nat → Addr} {h : EH} {H : Hp} {v : EV} {x : V} {P : (EH → Prop) → List EV → Prop} (R : RelH K m h H) (r : RelE K m h.length H v x) (q : srcE v h P) (nt : notTupE v) :
    ∃ (sc : Sc) (g : EH → Prop) (xs : List EV), noTup sc ∧ P g xs ∧ x = sc.val ∧ g h ∧
      ∀ m' h' H', Ex K m h.length H m' h'.length H' → RelH K m' h' H' → g h' → ∃ us, sc.is K H' us ∧ RelEs K m' h'.length H' xs us := by
  unfold srcE at q
  split at q
  · rename_i r0
    rw [RelE] at r
    obtain ⟨hr, rfl⟩ := r
    split at q
    · rename_i xs e
      refine ⟨.lst (m r0), _, xs, trivial, q, rfl, e, fun m' h' H' E' R' gh => ?_⟩
      obtain ⟨us, a', r'⟩ := R'.obj _ _ gh
      exact ⟨us, by rw [← E'.eq _ hr]; exact SqL.of a', r'⟩
    · rename_i xs e
      refine ⟨.lst (m r0), _, xs, trivial, q, rfl, e, fun m' h' H' E' R' gh => ?_⟩
      obtain ⟨us, a', r'⟩ := R'.obj _ _ gh
      exact ⟨us, by rw [← E'.eq _ hr]; exact a'.sql, r'⟩
    · exact q.elim
  · exact absurd nt (by simp [notTupE])
  · exact absurd nt (by simp [notTupE])
  · rename_i cs
    rw [RelE] at r
    subst r
    refine ⟨.txt (S cs), _, _, trivial, q, rfl, trivial, fun m' h' H' E' R' gh => ⟨_, rfl, ?_⟩⟩
    show RelEs K m' h'.length H' (cs.map fun c => EV.str [c]) (cs.toArray.toList.map fun c => V.str ⟨#[c]⟩)
    rw [List.toList_toArray]
    clear q nt
    induction cs with
    | nil => exact .nil
    | cons c cs ih => exact .cons (by rw [RelE]) ih
  · exact q.elim
def lEnum (ta : LA) : LI := fun env h P => ta env h fun vs h1 => match vs with
  | [x] => notTupE x ∧ srcE x h1 fun g xs => P g (numE xs 0) h1
  | _ => False
theorem numE_at {xs : List EV} {k : Int} {i : Nat} {z : EV} (e : (numE xs k)[i]? = some z) : ∃ x, xs[i]? = some x ∧ z = .tup [.int (k + (i : Nat)), x] := by
  obtain ⟨a, b, ha, hb, rfl⟩ := zw_at e
  obtain ⟨hl, e1⟩ := List.getElem?_eq_some_iff.mp ha
  rw [List.getElem_range] at e1
  subst e1
  exact ⟨b, hb, rfl⟩
theorem numE_len (xs : List EV) (k : Int) : (numE xs k).length = xs.length := by unfold numE; simp
theorem lit_enum {X : Cx} {e : Expr} {ta : LA} {p pos tpos : Pos} {elts : List Expr} {kk : Nat} (hg : Gl X "enumerate") (hm : X.mg "enumerate" = none) (ha : LAs X [e] ta) (hs : starEach [e] X.env = [(false, eval e X.env)] := by rfl) :
    LIt X (.Tuple elts kk tpos) (.Call (.Name "enumerate" p) [e] [] pos) (lEnum ta) := by
  refine ⟨PI.imp (piN hg hm ha.pa hs) fun σ H R ⟨m, env, h, P, at_, t1, k⟩ => ⟨m, env, h, _, at_, t1, fun vs h1 p1 m1 H1 xs E1 R1 r1 => ?_⟩⟩
  split at p1
  · rename_i x
    obtain ⟨v, rfl, r2⟩ := r1.one_inv
    obtain ⟨nt, p1⟩ := p1
    obtain ⟨sc, g, ls, nts, q, rfl, gh, sim⟩ := src_simN R1 r2 p1 nt
    obtain ⟨us, u1, _⟩ := sim m1 h1 H1 .refl R1 gh
    refine ⟨sc, us, nts, rfl, u1, k _ _ h1 q m1 H1 _ E1 R1 fun i h' m' H' E' R' gA => ?_⟩
    obtain ⟨us, u1, ru⟩ := sim m' h' H' E' R' gA
    refine ⟨fun z hz => ?_, fun hi => ⟨us, u1, by rw [numE_len] at hi; rw [← ru.length]; exact hi.symm⟩⟩
    obtain ⟨y, hy, rfl⟩ := numE_at hz
    obtain ⟨w, hw, rw'⟩ := ru.at hy
    refine ⟨⟨us, w, u1, hw⟩, fun v H2 ⟨T, w', ev, hT, eH, uw⟩ => ?_⟩
    have hw' := uw us u1
    rw [hw] at hw'
    cases hw'
    subst ev eH
    exact rel_pair R' hT (by rw [RelE]) rw'
  · exact p1.elim
end Y

namespace Y
open PySem PySem.Spec PyProof.Rows L2

theorem RelEs.dropLast {K : PySem.W.Frag} {m : Nat → Addr} {n : Nat} {H : Hp} {es : List EV} {vs : List V} (r : RelEs K m n H es vs) : RelEs K m n H es.dropLast vs.dropLast := by
  rw [List.dropLast_eq_take, List.dropLast_eq_take, r.length]
  exact r.take _
end Y

namespace Y
open PySem PySem.Spec PyProof.Rows L2

end Y

namespace Y
open PySem PySem.Spec PyProof.Rows L2 HT
section
variable {prog : Program} {w : World} {A : Around} {E : Value → Shared → Prop} {s : Shared}
end
end Y

namespace Y
open PySem PySem.Spec PyProof.Rows L2
end Y

namespace Y
open PySem PySem.Spec PyProof.Rows L2 PySem.W
section
variable {prog : Program} {w : World} {A : Around} {E : Value → Shared → Prop} {s : Shared} {x : Str} {t : Tok}
end
end Y

namespace Y
open PySem PySem.Spec PyProof.Rows L2
section
variable {X : Cx} {a b : Expr} {ta tb : LT} {pos : Pos} {rest : List Expr}
end
end Y

namespace Y
open PySem PySem.Spec PyProof.Rows L2
section
variable {X : Cx}
end
end Y

namespace Y
open PySem PySem.Spec PyProof.Rows L2
section
variable {X : Cx}
end
section
variable {X : Cx} {a b : Expr} {ta tb : LT} {p p2 q pos : Pos}
end
end Y

namespace Y
open PySem PySem.Spec PyProof.Rows L2
mutual
def flatD : PyData → Bool
  | .none => true
  | .bool _ => true
  | .int _ => true
  | .str _ => true
  | .tuple xs => flatDs xs
  | .list _ => false
  | .dict _ => false
def flatDs : List PyData → Bool
  | [] => true
  | x :: xs => flatD x && flatDs xs
end
def kD : L2.Key → PyData
  | .inl i => .int i
  | .inr x => .str x
def dicD (ps : List (L2.Key × PyData)) : PyData := .dict (ps.map fun p => (kD p.1, p.2))
inductive DKV (h : EH) : List (EV × EV) → List (L2.Key × PyData) → Prop
  | nil : DKV h [] []
  | int {i : Int} {v : EV} {d : PyData} {r : List (EV × EV)} {ps : List (L2.Key × PyData)} : Dat h 50 v d → flatD d = true → DKV h r ps → DKV h ((.int i, v) :: r) ((.inl i, d) :: ps)
  | str {s : List Nat} {v : EV} {d : PyData} {r : List (EV × EV)} {ps : List (L2.Key × PyData)} : Dat h 50 v d → flatD d = true → DKV h r ps → DKV h ((.str s, v) :: r) ((.inr (S s), d) :: ps)
inductive DatE (h : EH) : EV → PyData → Prop
  | pl {v : EV} {d : PyData} : Dat h 55 v d → DatE h v d
  | dic {r : Nat} {kvs : List (EV × EV)} {ps : List (L2.Key × PyData)} : h[r]? = some (.dic kvs) → DKV h kvs ps → DatE h (.ref r) (dicD ps)
inductive DatEs (h : EH) : List EV → List PyData → Prop
  | nil : DatEs h [] []
  | cons {v : EV} {d : PyData} {vs : List EV} {ds : List PyData} : DatE h v d → DatEs h vs ds → DatEs h (v :: vs) (d :: ds)
inductive DatX (h : EH) : EV → PyData → Prop
  | el {v : EV} {d : PyData} : DatE h v d → DatX h v d
  | lst {r : Nat} {xs : List EV} {ds : List PyData} : h[r]? = some (.lst xs) → DatEs h xs ds → DatX h (.ref r) (.list ds)
abbrev DRow (K : PySem.W.Frag) (H : Hp) : List (L2.Key × V) → List (L2.Key × PyData) → Prop := Paired fun p q => p.1 = q.1 ∧ Dp K H p.2 q.2 ∧ flatD q.2 = true ∧ q.2.depth ≤ 50 ∧ q.2.plain = true
inductive DpE (K : PySem.W.Frag) (H : Hp) : V → PyData → Prop
  | pl {v : V} {d : PyData} : Dp K H v d → d.depth ≤ 55 → d.plain = true → DpE K H v d
  | dic {a : Addr} {l : List (L2.Key × V)} {ps : List (L2.Key × PyData)} : H a = some (.dK l) → DRow K H l ps → DpE K H (.ref a) (dicD ps)
inductive DpX (K : PySem.W.Frag) (H : Hp) : V → PyData → Prop
  | el {v : V} {d : PyData} : DpE K H v d → DpX K H v d
  | lst {a : Addr} {xs : List V} {ds : List PyData} : SqL K H a xs → Paired (DpE K H) xs ds → DpX K H (.ref a) (.list ds)
section
variable {K : PySem.W.Frag} {m : Nat → Addr} {H : Hp} {h : EH}
theorem kV_int {k : L2.Key} {i : Int} (e : kV k = .int i) : k = .inl i := by
  cases k with
  | inl j => simp only [kV] at e; cases e; rfl
  | inr x => simp [kV] at e
theorem kV_str {k : L2.Key} {x : Str} (e : kV k = .str x) : k = .inr x := by
  cases k with
  | inl j => simp [kV] at e
  | inr y => simp only [kV] at e; cases e; rfl
theorem DKV.row (R : RelH K m h H) : ∀ {kvs : List (EV × EV)} {ps : List (L2.Key × PyData)} {l : List (L2.Key × V)}, DKV h kvs ps → RelKV K m h.length H kvs l → DRow K H l ps
  | _, _, l, .nil, r => by
    have r' : l = [] := r
    subst r'; exact .nil
  | _, _, l, .int dv fd dr, r => by
    obtain ⟨k', v, l', rfl, rk, rv, rr⟩ := r
    rw [RelE] at rk
    have e := kV_int rk
    subst e
    exact .cons ⟨rfl, Dat.dp R _ _ _ _ dv rv, fd, (Dat.dep _ _ _ dv).1, (Dat.dep _ _ _ dv).2⟩ (DKV.row R dr rr)
  | _, _, l, .str dv fd dr, r => by
    obtain ⟨k', v, l', rfl, rk, rv, rr⟩ := r
    rw [RelE] at rk
    have e := kV_str rk
    subst e
    exact .cons ⟨rfl, Dat.dp R _ _ _ _ dv rv, fd, (Dat.dep _ _ _ dv).1, (Dat.dep _ _ _ dv).2⟩ (DKV.row R dr rr)
theorem DatE.dp (R : RelH K m h H) {v : EV} {x : V} {d : PyData} (a : DatE h v d) (r : RelE K m h.length H v x) : DpE K H x d := by
  cases a with
  | pl a => exact .pl (Dat.dp R _ _ _ _ a r) (Dat.dep _ _ _ a).1 (Dat.dep _ _ _ a).2
  | dic e b =>
    rw [RelE] at r
    obtain ⟨_, rfl⟩ := r
    obtain ⟨l, hl, rl⟩ := R.obj _ _ e
    exact .dic hl (DKV.row R b rl)
theorem DatEs.dp (R : RelH K m h H) : ∀ {vs : List EV} {xs : List V} {ds : List PyData}, DatEs h vs ds → RelEs K m h.length H vs xs → Paired (DpE K H) xs ds
  | _, _, _, .nil, r => by rw [RelEs] at r; subst r; exact .nil
  | _, _, _, .cons a b, r => by
    rw [RelEs] at r
    obtain ⟨v, l, rfl, r1, r2⟩ := r
    exact .cons (DatE.dp R a r1) (DatEs.dp R b r2)
theorem DatX.dp (R : RelH K m h H) {v : EV} {x : V} {d : PyData} (a : DatX h v d) (r : RelE K m h.length H v x) : DpX K H x d := by
  cases a with
  | el a => exact .el (DatE.dp R a r)
  | lst e b =>
    rw [RelE] at r
    obtain ⟨_, rfl⟩ := r
    obtain ⟨vs, hv, t⟩ := R.obj _ _ e
    exact .lst (SqL.of hv) (DatEs.dp R b t)
end
mutual
theorem flat_as {h : Heap} : ∀ (d : PyData) (u : Value) (as : List Addr), flatD d = true → Reads h u d as → as = []
  | .none, _, _, _, r => by cases r; rfl
  | .bool _, _, _, _, r => by cases r; rfl
  | .int _, _, _, _, r => by cases r; rfl
  | .str _, _, _, _, r => by cases r; rfl
  | .list _, _, _, f, _ => by simp [flatD] at f
  | .dict _, _, _, f, _ => by simp [flatD] at f
  | .tuple xs, _, _, f, r => by
    cases r with
    | tuple h1 h2 h3 h4 => exact flats_as xs _ _ (by simpa [flatD] using f) h4
theorem flats_as {h : Heap} : ∀ (ds : List PyData) (us : List Value) (as : List Addr), flatDs ds = true → ReadsAll h us ds as → as = []
  | [], _, _, _, r => by cases r; rfl
  | d :: ds, _, _, f, r => by
    have f' : flatD d = true ∧ flatDs ds = true := by simpa [flatDs] using f
    cases r with
    | cons r1 r2 => rw [flat_as d _ _ f'.1 r1, flats_as ds _ _ f'.2 r2]; rfl
end
section
variable {X : Cx} {pins : List (Addr × Obj)} {σ : L2.St} {H : Hp} {s : Shared}
theorem row_reads (I : Inv X pins σ H s) : ∀ {l : List (L2.Key × V)} {ps : List (L2.Key × PyData)} {vs : List (L2.Key × Value)} {es : List DictEntry}, DRow X.K H l ps → KV l vs → Pairs (mixKind X.prog X.w) es vs →
    ReadsAll s.heap (es.map (·.key)) (ps.map fun p => kD p.1) [] ∧ ReadsAll s.heap (es.map (·.val)) (ps.map (·.2)) []
  | _, _, _, _, .nil, kv, pr => by
    cases kv
    cases pr
    exact ⟨.nil, .nil⟩
  | _, _, _, _, .cons a b, kv, pr => by
    cases kv with
    | cons k1 k2 =>
      cases pr with
      | cons q1 q2 p2 =>
        obtain ⟨i1, i2⟩ := row_reads I b k2 p2
        obtain ⟨e1, d1, f1, _⟩ := a
        obtain ⟨e2, r2⟩ := k1
        obtain ⟨as, rd⟩ := Dp.reads I _ _ _ d1 r2
        have has := flat_as _ _ _ f1 rd
        subst has
        refine ⟨?_, ?_⟩
        · refine ReadsAll.cons (as := []) (bs := []) ?_ i1
          rcases keyIs_shape (k := _) (v := _) q1 with ⟨i, t, hk, hv⟩ | ⟨x, t, hk, hv⟩
          · dsimp only; rw [hv, ← e1, e2, hk]; exact .int i t
          · dsimp only; rw [hv, ← e1, e2, hk]; exact .str x t
        · refine ReadsAll.cons (as := []) (bs := []) ?_ i2
          dsimp only; rw [q2]; exact rd
theorem DpE.reads (I : Inv X pins σ H s) {v : V} {u : Value} {d : PyData} (a : DpE X.K H v d) (r : RelV v u) : ∃ as, Reads s.heap u d as ∧ (d.hasDict = true → sysModules ∉ as) := by
  cases a with
  | pl a _ pd =>
    obtain ⟨as, rd⟩ := Dp.reads I _ _ _ a r
    exact ⟨as, rd, fun z => by rw [plain_noDict _ pd] at z; cases z⟩
  | @dic a0 l0 ps0 e b =>
    cases (show u = Value.ref _ from r)
    obtain ⟨_, sm, vs, kv, o, es, ep, h1, h2, h3, _, hp, _⟩ := (show ObjOk X.prog X.w H s.heap _ (.dK _) from I.hok _ _ e)
    obtain ⟨i1, i2⟩ := row_reads I b kv hp
    refine ⟨_, .dict h1 h2.1 h3 (by rw [List.map_map]; exact i1) (by rw [List.map_map]; exact i2), fun _ z => ?_⟩
    have z' : sysModules = a0 := by simpa using z
    rw [← z'] at sm
    simp at sm
theorem row_depth {K : PySem.W.Frag} : ∀ {l : List (L2.Key × V)} {ps : List (L2.Key × PyData)}, DRow K H l ps → PyData.depthKv (ps.map fun p => (kD p.1, p.2)) ≤ 50
  | _, _, .nil => by simp [PyData.depthKv]
  | _, _, .cons (b := qq) a b => by
    have q := row_depth b
    obtain ⟨_, _, _, d1, _⟩ := a
    simp only [List.map_cons, PyData.depthKv]
    have : (kD qq.1).depth ≤ 1 := by cases qq.1 <;> simp [kD, PyData.depth]
    omega
theorem DpE.depth {K : PySem.W.Frag} {v : V} {d : PyData} (a : DpE K H v d) : d.depth ≤ 55 := by
  cases a with
  | pl _ dd _ => exact dd
  | dic _ b =>
    have q := row_depth b
    unfold dicD
    simp only [PyData.depth]
    omega
end
section
variable {X : Cx}
end
section
variable {X : Cx} {pins : List (Addr × Obj)} {σ : L2.St} {H : Hp} {s : Shared}
end
section
variable {X : Cx}
end
end Y

namespace Y
open PySem PySem.Spec PyProof.Rows L2

theorem mcall_eq {o e : Expr} {name : Str} {apos pos : Pos} {env : Env} {ov : Value} (hl : (apos.endLine == pos.line) = true) (he : starEach [e] env = [(false, eval e env)]) :
    methodCall o name apos pos env ov 1 (backTo pos (starEach [e] env)) [] = (do
      let (f, first) ← holding [ov] (getMethod ov name (do return (← importBound o env).getD true))
      callWith pos f first (backTo pos (starEach [e] env)) []) := by
  have hf : methodCallForm 1 (backTo pos (starEach [e] env)) [] = true := by rw [he]; rfl
  unfold methodCall methodCallPos calleeOf
  rw [hf]
  simp only [if_true, Bool.not_true, hl, Bool.or_true, pure_bind, Bool.false_or]
theorem call_form {o : Expr} {name x : Str} {p3 apos pos : Pos} {env : Env} (hl : (apos.endLine == pos.line) = true) : eval (.Call (.Attribute o name apos) [.Name x p3] [] pos) env = (do
      let ov ← attributeBase o name env (eval o env)
      standAt apos.atName
      let (f, first) ← holding [ov] (getMethod ov name (do return (← importBound o env).getD true))
      callWith pos f first (backTo pos (starEach [.Name x p3] env)) []) :=
  congrArg (fun k : Value → Sem Value => attributeBase o name env (eval o env) >>= k) (funext fun ov => congrArg (fun k : Sem Value => standAt apos.atName >>= fun _ => k) (mcall_eq hl rfl))
def InitBody (x f : Str) (body : List Stmt) : Prop := ∃ p0 p1 p2 p3 p4 p5 p6 p7 p8 p9 : Pos,
  (p2.endLine == p4.line) = true ∧ body = [.Expr (.Call (.Attribute (.Call (.Name "super" p0) [] [] p1) "__init__" p2) [.Name x p3] [] p4) p5, .Assign [.Attribute (.Name "self" p6) f p7] (.Name x p8) p9]
structure InitFn (P : Program) (K : PySem.W.Frag) (C fI : Addr) (x f : Str) : Prop where
  fn : ∃ (oc : Value) (od : Option Addr) (osl : Array (Option Value)) (n q : Str) (a1 a2 : Arg) (body : List Stmt) (scope : Scope) (cc cda : Addr) (kV doc pm ct : Value) (an : Option Addr),
    K.lookup fI = some ⟨oc, od, .func (PySem.W.fnX n q ⟨[], [a1, a2], none, [], [], none, []⟩ body scope [("__class__", cc)] .none kV doc pm an (.ref cda) ct), osl⟩ ∧
    a1.arg = "self" ∧ a2.arg = x ∧ InitBody x f body ∧ PySem.W.codeIn K (.ref cda) q = true ∧
    scope.kind = .function ∧ scope.isCoroutine = false ∧ scope.isGenerator = false ∧ scope.names.lookup ("super" : Str) = some .globalImplicit ∧ scope.names.lookup ("__class__" : Str) = some .free ∧ scope.names.lookup ("self" : Str) = some .local ∧
    scope.names.lookup x = some .local ∧ (∀ y ∈ scope.names, y.2 ≠ .cell) ∧
    (∃ (ccl : Value) (cdd : Option Addr) (vs : Array Value) (ccs : Array (Option Value)) (file : Str) (tf : Tok), K.lookup cda = some ⟨ccl, cdd, .fields vs, ccs⟩ ∧ vs[2]? = some (.str file tf) ∧ ((P.main.file : Str) == file) = true) ∧
    ∃ (cl : Value) (cld : Option Addr) (csl : Array (Option Value)), K.lookup cc = some ⟨cl, cld, .cell (some (.ref C)), csl⟩
  ne : (x == ("self" : Str)) = false
  xd : (x == ("__debug__" : Str)) = false
structure ExcC (P : Program) (K : PySem.W.Frag) (C : Addr) (x f : Str) : Prop where
  oex : OexC K C
  xf : XfC K C
  no : PySem.W.findIn K (.ref C) f = some none
  init : ∃ fI, PySem.W.findIn K (.ref C) "__init__" = some (some (.ref fI)) ∧ PySem.W.typeIn K (.ref fI) = some (.type "function") ∧ InitFn P K C fI x f
  top : (P.main.scope.names.lookup ("super" : Str)).isSome = false
  sup : PySem.W.nsIn K mainGlobals "super" = some none
  mro : PySem.W.mroIn K C (.ref C) = some true
  up : PySem.W.ks_superIn K C C "__init__" = some (some (.builtin "ValueError.__init__"))
  sub : PySem.W.subIn K (.ref C) (.type "ValueError") = some true
  st : PySem.W.nsIn K cStatics "thirdparty.any" = some none
  ein : PySem.W.excInitIn K C [.type "ValueError", .type "Exception", .type "BaseException", .type "object"] "ValueError.__new__" = true
section
variable {P : Program} {w : World} {K : PySem.W.Frag} {A : Around} {hp : Heap} {g : Array GenState} {dr : Drawn} {tk : Nat} {os : OsState} {C fI e t0 : Addr} {x f : Str} {u : Value} {R : Result → Shared → Prop}
theorem exc_init {mg : Str → Option Value} {h0 : Heap} (T : ExcC P K C x f) (Fi : InitFn P K C fI x f) (X0 : K.In h0) (G : h0.Ns mainGlobals mg) {mb : Str → Option Value} (B : h0.Ns builtinsNs mb) (hb : ∀ y : Str, y ≠ "__name__" → mb y = bootBuiltins y) (nl : h0.NoLimit)
    (k0 : ∀ b o, h0.get? b = some o → hp.get? b = some o) (hsz : h0.objs.size ≤ hp.objs.size) (hn : h0.get? e = none) (he : hp.get? e = some (PySem.W.excObj C t0 none .none)) (hd : A.depth < recursionLimit)
    (hq : ∀ h' tk' dx t', (∀ b o, h0.get? b = some o → h'.get? b = some o) → h'.get? e = some (PySem.W.excObj C t' (some dx) .none) → h0.objs.size ≤ dx → dx ≠ e → h'.Ns1 dx (fun y => if y = f then some u else none) →
      R (.ok (.ret .none)) ⟨h', g, dr, tk', os⟩) :
    codeAny (model P w) A (.call (.ref fI) ⟨[.ref e, u], []⟩) R ⟨hp, g, dr, tk, os⟩ := by
  obtain ⟨oc, od, osl, n, q, a1, a2, body, scope, cc, cda, kV, doc, pm, ct, an, lk, ea1, ea2, hbody, hcd, sk, sco, sge, ssu, scl, sse, sx, nocell, ⟨ccl, cdd, vs, ccs, file, tf, lkc, hvs, hfile⟩, cl, cld, csl, lkcell⟩ := Fi.fn
  have XH : K.In hp := X0.keeps k0
  have nx := Fi.ne
  refine ks_codeAny_call_defAt (binds := [(("self" : Str), Value.ref e), (x, u)]) hd (XH _ _ lk) rfl (nl.keeps k0) (PySem.W.codeRec_of XH hcd) rfl (.of_eq ?_) nocell (fun y hy => ?_) (fun h1 hns hk1 => ?_) sco sge sk
  · have e1 : (a2.arg == ("self" : Str)) = false := by rw [ea2]; exact nx
    have e2 : (("self" : Str) == a2.arg) = false := by
      rw [Bool.eq_false_iff]; intro z
      rw [← eq_of_beq z] at e1; simp at e1
    subst ea2
    unfold bindArgs
    simp [PySem.W.fnX, ea1, List.lookup, e1, e2, seqItems?]
    rfl
  · rcases List.mem_cons.mp hy with rfl | hy
    · exact sse
    · rcases List.mem_cons.mp hy with rfl | hy
      · exact sx
      · cases hy
  obtain ⟨p0, p1, p2, p3, p4, p5, p6, p7, p8, p9, hl, rfl⟩ := hbody
  have kk1 : ∀ b o, h0.get? b = some o → h1.get? b = some o := fun b o z => hk1 b o (k0 b o z)
  have Fr1 : PyProof.Rows.Fr h0 hp.objs.size h1 (fun y => [(("self" : Str), Value.ref e), (x, u)].reverse.lookup y) := ⟨hns, kk1, hsz⟩
  have eL : e ≠ hp.objs.size := Nat.ne_of_lt (Heap.lt_size he)
  have N1 : PyProof.Rows.News h0 hp.objs.size h1 [(e, PySem.W.excObj C t0 none .none)] := fun p hp' => by
    rcases List.mem_cons.mp hp' with rfl | z
    · exact ⟨hk1 _ _ he, eL, hn⟩
    · cases z
  have mself : (fun y => [(("self" : Str), Value.ref e), (x, u)].reverse.lookup y) "self" = some (Value.ref e) := by
    show List.lookup ("self" : Str) [(x, u), (("self" : Str), Value.ref e)] = _
    have e1 : (("self" : Str) == x) = false := by
      rw [Bool.eq_false_iff]; intro z
      have z2 := eq_of_beq z
      rw [← z2] at nx; simp at nx
    simp [List.lookup, e1]
  have mx : (fun y => [(("self" : Str), Value.ref e), (x, u)].reverse.lookup y) x = some u := by
    show List.lookup x [(x, u), (("self" : Str), Value.ref e)] = _
    simp [List.lookup]
  generalize hm : (fun y => [(("self" : Str), Value.ref e), (x, u)].reverse.lookup y) = m at Fr1 mself mx
  have hns' : h1.Ns hp.objs.size m := Fr1.ns
  refine ks_wpAt_execs_cons (ks_wpAt_Expr_any (ks_wpAt_MethodCall (pl := _) ?_ (call_form hl)) (by unfold interactive; simp [callEnv, newEnv, PySem.W.fnX, sk]))
  have I1 : PySem.W.InstAt h1 e (PySem.W.excObj C t0 none .none) C none := ⟨(N1 _ (List.mem_singleton.mpr rfl)).1, rfl, rfl, trivial⟩
  have clsC : ∃ cd, PySem.W.clsIn K C = some cd := by
    have z := T.mro
    unfold PySem.W.mroIn at z
    cases q : PySem.W.clsIn K C with
    | none => rw [q] at z; cases z
    | some cd => exact ⟨cd, rfl⟩
  obtain ⟨cd, hcls⟩ := clsC
  obtain ⟨oD, hD1, hD2⟩ : ∃ oD, h1.get? C = some oD ∧ oD.data = .cls cd := by
    unfold PySem.W.clsIn at hcls
    split at hcls
    · rename_i ho
      cases hcls
      exact ⟨_, hk1 _ _ (XH _ _ ho), rfl⟩
    · cases hcls
  have XH1 : K.In h1 := X0.keeps kk1
  refine ks_wpAt_super_base ssu scl (by decide) rfl (XH1 _ _ lk) rfl rfl rfl (XH1 _ _ lkc) rfl hvs hfile T.top ?_
  refine PySem.W.ks_loadName_global sk ssu (Calls.loadGlobal_builtin (mg := mg) (mb := mb) (G.keeps kk1) (PySem.W.mg_none_of X0 G T.sup) (B.keeps kk1) ((hb "super" (by decide)).trans PyProof.Rows.Boot.«super») ⟨rfl, ?_⟩)
  refine wpAny_loadName_free sk scl rfl ⟨_, XH1 _ _ lkcell, rfl⟩ ?_
  rw [ea1]
  refine wpAny_loadName_local sk sse hns' mself ?_
  refine PySem.ks_wpAny_isType_cls hD1 hD2 ⟨rfl, ?_⟩
  refine ks_wpAny_call_super hD1 hD2 I1.at_ rfl (fun c z => nomatch z) (PySem.W.looks_mroIn XH1 T.mro) (fun h2 e2 k2 => ?_)
  obtain ⟨Fr2, N2, lt2⟩ := PySem.W.ks_newsPush (s := ⟨h1, g, dr, 0, os⟩) Fr1 N1 rfl e2 k2
  have I2 : PySem.W.InstAt h2 e (PySem.W.excObj C t0 none .none) C none := ⟨k2 _ _ I1.at_, rfl, rfl, trivial⟩
  refine PySem.W.kxs_method (s := ⟨h2, g, dr, _, os⟩) PySem.W.kxs_ValueError Fr2 X0 N2 (List.mem_cons_self ..) I2 T.st T.up T.sub (by decide) (fun q3 h3 Fr3 N3 lt3 => ?_)
  refine PySem.W.kxs_callWith1 (s := ⟨h3, g, dr, _, os⟩) N3 (List.mem_cons_self ..) ?_ rfl rfl
  refine Calls.spliced_cons (wpAny_Name (wpAny_loadName_local sk sx Fr3.ns mx ?_) Fi.xd)
  refine Calls.spliced_nil ⟨(N3 _ (List.mem_cons_self ..)).1, ?_⟩
  have ne3 : ∀ p ∈ [(h1.objs.size, PySem.W.ks_superObj C e C), (e, PySem.W.excObj C t0 none .none)], p.1 < q3 := lt3
  have hlt : e < h1.objs.size := Heap.lt_size I1.at_
  have hq3 : q3 ≠ e := Nat.ne_of_gt (lt3 (e, PySem.W.excObj C t0 none .none) (by simp))
  have UF : PySem.W.UpdF e (PySem.W.excObj C t0 none .none) [(q3, PySem.W.kxs_mw "ValueError.__init__" e), (h1.objs.size, PySem.W.ks_superObj C e C), (e, PySem.W.excObj C t0 none .none)]
      (fun o' => [(q3, PySem.W.kxs_mw "ValueError.__init__" e), (h1.objs.size, PySem.W.ks_superObj C e C), (e, o')]) := .tail hq3 (.tail (Nat.ne_of_gt hlt) (.head (fun p z => nomatch z)))
  refine PySem.W.kxs_call (s := ⟨h3, g, dr, _, os⟩) Fr3 X0 N3 F.excBase_ValueError T.ein (List.mem_cons_self ..) UF (by rw [sizeLine_eq]; simp) (fun t4 h4 Fr4 N4 lt4 => ?_)
  have he4 : h4.get? e = some (PySem.W.excObj C t4 none .none) := (N4 (e, PySem.W.excObj C t4 none .none) (by simp)).1
  have kk4 := Fr4.keep
  refine ks_wpAt_execs_cons (ks_wpAt_Assign_Attr (wpAt_of_wpAny (wpAny_Name (wpAny_loadName_local sk sx Fr4.ns mx ?_) Fi.xd)) rfl)
  refine wpAny_Name (wpAny_loadName_local sk sse Fr4.ns mself ?_) (by decide)
  obtain ⟨nm, qq, NN, bs, bm, sn, sub, ab, col, dd, c0, c1, c2, c3, c5, hC, hbm⟩ := T.oex.cls
  have hcl : PySem.W.clsIn K C = some { name := nm, bases := bs, mro := .ref C :: bm, ns := NN, qualname := qq, hasDict := true, slotNames := sn, subclasses := sub, abstract := ab, collection := col, hasDel := false } := by unfold PySem.W.clsIn; rw [hC] <;> rfl
  have XH4 : K.In h4 := X0.keeps kk4
  refine PySem.W.set_plain (s := ⟨h4, g, dr, _, os⟩) (C := C) (od := none) XH4 ⟨he4, rfl, rfl, trivial⟩ T.oex.sa ?_
  refine PySem.HandSPX.exc_osa XH4 he4 hcl (show PySem.HandSPX.refsVE (.ref C :: bm) = true from hbm) rfl T.no (fun h5 tk5 dx k5 dn dne hx5 hn5 => ?_)
  refine wpAt_of_wpAny (wpAny_execs_nil ?_)
  have s04 : h0.objs.size ≤ h4.objs.size := by
    have a1 : h0.objs.size ≤ hp.objs.size := hsz
    have a2 : hp.objs.size < h4.objs.size := by
      obtain ⟨oL, _, _, hL, _⟩ := Fr4.ns
      exact Heap.lt_size hL
    omega
  refine hq h5 _ dx t4 (fun b o z => k5 b o (fun y => by rw [y, hn] at z; cases z) (kk4 b o z)) hx5 (Nat.le_trans s04 dn) dne hn5
end
section
variable {X : Cx} {C : Addr} {x f : Str}
theorem restricted (h : Heap) (e : Addr) : ∃ G : Heap, (∀ b, b ≠ e → G.get? b = h.get? b) ∧ G.get? e = none := by
  obtain ⟨G, a, b⟩ := restrict h fun b => decide (b ≠ e)
  exact ⟨G, fun c hc => a c (decide_eq_true hc), b e (by simp)⟩
theorem pmk_C {y : Str} {e : Expr} {te : TE} {p pos : Pos} (T : ExcC X.prog X.K C x f) (hr : Room 1 X.A) (hg : Gl X y) (hm : X.mg y = some (.ref C)) (he : PE X e te)
    (hdb : (y == ("__debug__" : Str)) = false := by decide) (hse : starEach [e] X.env = (false, eval e X.env) :: starEach [] X.env := by rfl) :
    PMk X (.Call (.Name y p) [e] [] pos) (fun σ H Q => te σ H fun v H1 => ∀ d, H1 d = none → Q (.ref C) (some d) (upd H1 d (.xd [(f, v)]))) := by
  intro pins s σ H Q I h
  obtain ⟨nm, q, N, bs, bm, sn, sub, ab, col, dd, k0, k1, k2, k3, k5, hC, hbm⟩ := T.oex.cls
  obtain ⟨fI, iC, tI, Fi⟩ := T.init
  refine wpAny_Call_Name_kw (ld_glob I hg hm ?_ hdb)
  refine PySem.W.callWith_K (h₀ := X.base) I.ok.mod.kin T.oex.kC (thn ((pa_cons he pa_nil hse).run pos pins s σ H (fun vs H1 => match vs with
    | [v] => ∀ d, H1 d = none → Q (.ref C) (some d) (upd H1 d (.xd [(f, v)]))
    | _ => False) I h) fun us s1 ⟨vs, H1, I1, r1, q1⟩ => ⟨I1.kIn, ?_⟩) hse rfl
  match vs, q1 with
  | [v], q1 =>
    obtain ⟨u, rfl, ru⟩ := vals1 r1
    show wpAny _ _ (call (.ref C) [u]) _ _ _
    obtain ⟨mm, fr⟩ := I1.fr
    obtain ⟨mb, hmb, hbb⟩ := I1.ok.mod.blt
    obtain ⟨hp, g, dr, tk, os⟩ := s1
    have XH : X.K.In hp := I1.kIn
    have kk : ∀ b o, hp.get? b = some o → ((hp.push (PySem.W.kdv_tup [u])).push (PySem.HandSPX.excO C hp.objs.size)).get? b = some o := fun b o z => Heap.get?_push_of_some _ (Heap.get?_push_of_some _ z)
    have hget : ((hp.push (PySem.W.kdv_tup [u])).push (PySem.HandSPX.excO C hp.objs.size)).get? (hp.objs.size + 1) = some (PySem.HandSPX.excO C hp.objs.size) := by heap_get
    have hno : ∀ n, hp.get? (hp.objs.size + n) = none := fun n => Heap.get?_none_of_le (Nat.le_add_right _ _)
    refine wpAny_call (PySem.HandSPX.call_own F.excBase_ValueError (fun Y => PySem.HandSPX.refsVE_contains Y bm hbm) (XH _ _ hC) (PySem.W.looks_findIn XH iC) (fun self => PySem.W.bind_fn XH self tI) (by rw [sizeLine_eq]; simp)
      (exc_init (t0 := hp.objs.size) T Fi XH (I1.ok.mod.glob.keeps fr.keep) (hmb.keeps fr.keep) hbb (I1.ok.mod.nolimit.keeps fr.keep) kk (by rw [Heap.size_push, Heap.size_push]; omega) (hno 1) hget (hr.make C [u] []).depth ?_))
    intro h' tk' dx t' k5 hx5 dn dne hn5
    refine ⟨rfl, ?_⟩
    have hH1 : H1 dx = none := I1.hok.fresh dn
    have hHe : H1 (hp.objs.size + 1) = none := I1.hok.fresh (Nat.le_succ _)
    obtain ⟨G, gk, ge⟩ := restricted h' (hp.objs.size + 1)
    have nhe : ∀ {b : Addr} {o : Obj}, hp.get? b = some o → b ≠ hp.objs.size + 1 := fun {b o} z => Nat.ne_of_lt (Nat.lt_succ_of_lt (Heap.lt_size z))
    have nhd : ∀ {b : Addr} {o : Obj}, hp.get? b = some o → b ≠ dx := fun {b o} z => Nat.ne_of_lt (Nat.lt_of_lt_of_le (Heap.lt_size z) dn)
    have kG : ∀ b o, hp.get? b = some o → G.get? b = some o := fun b o z => (gk b (nhe z)).trans (k5 b o z)
    have U : Un (frs X.stack) [] H1 (upd H1 dx (.xd [(f, v)])) hp G := {
      keep := fun b o z _ _ _ => kG b o z
      slot := fun b o z _ _ _ => ⟨o.slots, kG b o z⟩
      free := fun b o z n _ => by rw [upd_ne (nhd z)]; exact n
      there := fun b o z _ => ⟨o, kG b o z⟩
      tups := fun b xs z => by rw [upd_ne (ne_of_none z hH1)]; exact z
      frzs := fun b o w z => by rw [upd_ne (ne_of_none z hH1)]; exact z
      tbls := fun b ps z => ⟨#[], by rw [upd_ne (ne_of_none z hH1), z]; simp⟩ }
    have hok3 : HOk X.prog X.w (upd H1 dx (.xd [(f, v)])) G := fun b o z => by
      by_cases hbd : b = dx
      · subst hbd
        rw [upd_same] at z
        cases z
        exact ⟨_, hn5.at fun o y => (gk b dne).trans y, relO_put (fs := []) ru fun _ => True.intro⟩
      · rw [upd_ne hbd] at z
        exact (I1.hok b o z).stay (fun c w _ y => kG c w y) (fun c hc => by rw [upd_ne (ne_of_none hc hH1)]; exact hc) (fun c xs hc => by rw [upd_ne (ne_of_none hc hH1)]; exact hc)
    have J : Inv X pins σ (upd H1 dx (.xd [(f, v)])) ⟨G, g, dr, tk', os⟩ := I1.call' (ch := []) rfl U hok3 I1.bare (fun b z => absurd z (by simp))
    refine ⟨hp.objs.size + 1, _, _, ⟨G, g, dr, tk', os⟩, _, .ref C, some dx, rfl, J, fun b o z => ?_, ge, hx5, ⟨rfl, rfl⟩, rfl, rfl, ?_, rfl, I1.bare, raises_own T.oex.exC T.oex.tyC, q1 dx hH1⟩
    · by_cases hb : b = hp.objs.size + 1
      · have z' : G.get? b = some o := z
        rw [hb, ge] at z'; cases z'
      · exact (gk b hb).symm.trans z
    · rw [upd_ne (Ne.symm dne)]; exact hHe
end
end Y

namespace Y
open PySem PySem.Spec PyProof.Rows L2

section
variable {K : PySem.W.Frag} {m m' : Nat → Addr} {n n' : Nat} {H H' : Hp} {h h' : EH}
theorem Ex.mark {e : EO} : Ex K m h.length H m (h ++ [e]).length H := ⟨by simp, fun _ _ => rfl, fun _ _ z => z, fun _ _ z => z⟩
theorem RelH.mark (R : RelH K m h H) : RelH K m (h ++ [.mark m h.length H]) H := by
  refine ⟨fun r u hr => ?_, fun r q u v hr hq fu fv z => ?_⟩
  · rcases app_cases hr with ⟨q, hr⟩ | ⟨rfl, rfl⟩
    · exact (R.obj r u hr).ex Ex.mark rfl fun b => ⟨id, id⟩
    · exact Ex.mark
  · rcases app_cases hr with ⟨a, hr'⟩ | ⟨a, a'⟩
    · rcases app_cases hq with ⟨b, hq'⟩ | ⟨b, b'⟩
      · exact R.inj r q u v hr' hq' fu fv z
      · rw [b'] at fv; cases fv
    · rw [a'] at fu; cases fu
theorem At.mark {env : En} {σ : L2.St} (a : At K env h m σ H) : At K env (h ++ [.mark m h.length H]) m σ H := ⟨a.hp.mark, a.nm.ex Ex.mark⟩
theorem RelH.marked {k : Nat} (R : RelH K m' h' H') (e : h'[k]? = some (.mark m n H)) : Ex K m n H m' h'.length H' := R.obj k _ e
end
abbrev EW := Addr → List (Str × EV) → En → EH → Prop
abbrev ED := Addr → List (Str × EV) → EH → Prop
def DFs (K : PySem.W.Frag) (m : Nat → Addr) (n : Nat) (H : Hp) (d : Option Addr) (fs : List (Str × EV)) : Prop := (∃ dx l, d = some dx ∧ H dx = some (.xd l) ∧ RelFs K m n H fs l) ∨ (d = none ∧ fs = [])
def upX (K : PySem.W.Frag) (W : EW) : WX := fun cls d σ H => ∃ m env h C fs, At K env h m σ H ∧ cls = .ref C ∧ DFs K m h.length H d fs ∧ W C fs env h
def KonX (K : PySem.W.Frag) (m : Nat → Addr) (n : Nat) (H : Hp) (W : ED) (E : XK) : Prop :=
  ∀ C fs h', W C fs h' → ∀ (m' : Nat → Addr) (H' : Hp) (d : Option Addr), Ex K m n H m' h'.length H' → RelH K m' h' H' → DFs K m' h'.length H' d fs → E (.ref C) d H'
def lRaise (W : EW) (C : Addr) (f : Str) (te : LT) : LS := fun _ env h => te env h fun v h1 => W C [(f, v)] env h1
section
variable {X : Cx} {W : EW}
theorem ls_raise {C : Addr} {x f y : Str} {e : Expr} {te : LT} {p pos pos' : Pos} (T : ExcC X.prog X.K C x f) (tk : Takes X (upX X.K W)) (hc : X.calm = true) (hr : Room 1 X.A) (hg : Gl X y) (hm : X.mg y = some (.ref C)) (he : LE X e te)
    (hdb : (y == ("__debug__" : Str)) = false := by decide) (hse : starEach [e] X.env = (false, eval e X.env) :: starEach [] X.env := by rfl) :
    LSt X (.Raise (some (.Call (.Name y p) [e] [] pos)) none pos') (lRaise W C f te) := by
  refine ⟨PS.imp (ps_raise hc tk (pmk_C (pos := pos) T hr hg hm he.pe hdb hse)) fun D σ H ⟨m, env, h, P, at_, t1, k⟩ => ⟨m, env, h, _, at_, t1, fun v h1 p1 m1 H1 x E1 R1 r1 d hd => ?_⟩⟩
  have a1 := at_.ex E1 R1
  exact ⟨m1, env, h1, C, [(f, v)], ⟨R1.tup hd, a1.nm.ex (Ex.tup1 hd)⟩, rfl, .inl ⟨d, [(f, x)], rfl, upd_same, ⟨x, [], rfl, RelE.ex (Ex.tup1 hd) _ _ r1, rfl⟩⟩, p1⟩
end
abbrev LSpX := List EV → EH → EK → ED → Prop
def upSpX (K : PySem.W.Frag) (sp : LSpX) : List V → Hp → VK → XK → Prop := fun vs H Q E => ∃ m h evs P W, RelH K m h H ∧ RelEs K m h.length H evs vs ∧ sp evs h P W ∧ Kon K m h.length H P Q ∧ KonX K m h.length H W E
structure FnX (P : Program) (w : World) (K : PySem.W.Frag) (mg : Str → Option Value) (base : Heap) (k : Nat) (f : Addr) (fd : FuncData) (ps : List Str) (sp : LSpX) : Prop where
  len : ∀ evs h Q W, sp evs h Q W → evs.length = ps.length
  run : ∀ (A : Around) (outer : List Env) (s : Shared) (H : Hp) (args : Args) (us : List Value) (vs : List V) (Q : VK) (E : XK), Room k A → A.guards = some [] → Env0 P w K mg base A outer s H →
    BindsTo s fd args (ps.zip us) → Vals vs us → upSpX K sp vs H Q E → codeAny (model P w) A (.call (.ref f) args) (CR (CX P w) outer P w H s Q E) s
def lCallX (sp : LSpX) (W : EW) (t : LA) : LT := fun env h P => t env h fun vs h1 => sp vs h1 P fun C fs h2 => W C fs env h2
section
variable {X : Cx} {k : Nat} {f : Addr} {fd : FuncData} {ps : List Str} {sp : LSpX} {W : EW} {x : Str} {p pos : Pos} {e : Expr} {es : List Expr} {t : LA}
theorem runX {pins : List (Addr × Obj)} {σ : L2.St} {H : Hp} {s : Shared} {Q : VK} {us : List Value} {vs : List V} (Fn : FnX X.prog X.w X.K X.mg X.base k f fd ps sp) (tk : Takes X (upX X.K W)) (hr : Room k X.A) (hG : X.A.guards = some [])
    (hb : Binds X.K fd ps []) (I : Inv X pins σ H s) (r : Vals vs us) (q : upSpX X.K sp vs H Q fun cls d H' => upX X.K W cls d σ H') : wpAny (model X.prog X.w) X.A (call (.ref f) us) (EP X pins σ Q) X.xe s := by
  have hl : us.length = ps.length := by
    obtain ⟨m, h, evs, P, W', R, re, sq, _⟩ := q
    rw [← r.length, ← re.length]
    exact Fn.len _ _ _ _ sq
  have b := hb s us I.kIn (by simpa using hl)
  rw [List.append_nil] at b
  refine wpAny_call (codeAny_mono (Fn.run X.A X.stack s H _ us vs Q _ hr hG I.env0 b r q) fun o s' ho => ?_)
  match o, ho with
  | .error er, ho => exact tk er s' (XE.of_call I (fun _ _ _ z => z) ho)
  | .ok (.ret u), ho => exact I.after ho
  | .ok .next, ho => exact ho.elim
  | .ok .brk, ho => exact ho.elim
  | .ok .cont, ho => exact ho.elim
theorem le_callX (Fn : FnX X.prog X.w X.K X.mg X.base k f fd ps sp) (tk : Takes X (upX X.K W)) (hr : Room k X.A) (hG : X.A.guards = some []) (hg : Gl X x) (hm : X.mg x = some (.ref f)) (hk : PySem.W.keepIn X.K (.ref f) = true) (hb : Binds X.K fd ps [])
    (ha : LAs X (e :: es) t) (hdb : (x == ("__debug__" : Str)) = false := by decide) (he : starEach (e :: es) X.env = (false, eval e X.env) :: starEach es X.env := by rfl) (hpl : (backTo pos (starEach es X.env)).any (·.1) = false := by rfl) :
    LE X (.Call (.Name x p) (e :: es) [] pos) (lCallX sp W t) := by
  refine ⟨⟨fun pins s σ H Q I ⟨m, env, h, P, at_, t1, k⟩ => wpAny_Call_Name_kw (ld_glob I hg hm (PySem.W.callWith_K (h₀ := X.base) I.ok.mod.kin hk (thn (ha.pa.run pos pins s σ H (fun vs H1 => upSpX X.K sp vs H1 Q fun cls d H' => upX X.K W cls d σ H') I
    ⟨m, env, h, _, at_, t1, fun vs h1 p1 m1 H1 xs E1 R1 r1 => ?_⟩) fun us s1 ⟨vs, H1, I1, r, q1⟩ => ⟨I1.kIn, runX Fn tk hr hG hb I1 r q1⟩) he hpl) hdb)⟩⟩
  exact ⟨m1, h1, vs, P, _, R1, r1, p1, k.ex E1, fun C fs h2 w2 m2 H2 d2 E2 R2 df => ⟨m2, env, h2, C, fs, (at_.ex E1 R1).ex E2 R2, rfl, df, w2⟩⟩
end
theorem fnX_of {P : Program} {w : World} {K : PySem.W.Frag} {mg : Str → Option Value} {base : Heap} {k : Nat} {f : Addr} {fd : FuncData} {name qual : Str} {params : Arguments} {body : List Stmt} {scope : Scope} {N ps : List Str} {sp : LSpX} {t : EW → LS}
    (Fd : FunD K name qual params body scope [] [] f fd) (Sc : FnScope N ps scope) (len : ∀ evs h Q W, sp evs h Q W → evs.length = ps.length)
    (hbody : ∀ (cdv : Value) (A : Around) (outer : List Env) (s : Shared) (H : Hp) (E : XK) (W : EW), Room k (A.deeper (envOfC qual scope s.heap.objs.size f cdv)) → (A.deeper (envOfC qual scope s.heap.objs.size f cdv)).guards = some [] →
      Takes (cxOf (CX P w) P w K mg base N qual scope f cdv A outer s H E) (upX K W) → LSs (cxOf (CX P w) P w K mg base N qual scope f cdv A outer s H E) body (t W))
    (pure : ∀ evs h Q W, sp evs h Q W → ∀ mk, isF mk = true → t (fun C fs _ h' => h'[h.length]? = some mk ∧ W C fs h') (endsOf Q) (startE N evs) (h ++ [mk])) :
    FnX P w K mg base (k + 1) f fd ps sp := by
  obtain ⟨oc, od, dV, kV, doc, pm, an, cdv, ct, osl, rfl, lk, hcd, _, _⟩ := Fd.ex
  refine ⟨len, fun A outer s H args us vs Q E hr hG e0 hb r q => ?_⟩
  obtain ⟨m, h, evs, Pk, Wk, R, re, sq, kq, kx⟩ := q
  have hl : vs.length = ps.length := by
    rw [← re.length]; exact len _ _ _ _ sq
  have keepB : ∀ b o, base.get? b = some o → s.heap.get? b = some o := fun b o z => (e0.bs b o z).1
  have inK := e0.mod.kin.keeps keepB
  refine codeAny_call_function hr.depth (inK _ _ lk) rfl Sc.co Sc.gen rfl (PySem.W.codeRec_of inK hcd) (hb _ _ _ _ ?_)
  refine wpAny_newFunctionEnv_cells Sc.kind (fun y hy => ?_) fun env he s1 x => ?_
  · rcases Sc.par y.1 (List.of_mem_zip hy).1 with z | z
    · exact .inl z
    · exact .inr ⟨z, PySem.W.cellsFrom_some _ _ _ (.inl z)⟩
  · subst he
    refine ⟨(e0.mod.nolimit.keeps keepB).keeps x.toInCall.keep, codeAny_func ?_⟩
    have I := inv_start (CX := CX P w) (P := P) (w := w) (K := K) (mg := mg) (base := base) (E := E) Sc hr.hd e0 hl r x
    have tk : Takes (cxOf (CX P w) P w K mg base N qual scope f cdv A outer s H E) (upX K fun C fs _ h' => h'[h.length]? = some (.mark m h.length H) ∧ Wk C fs h') :=
      (takes_of (X := cxOf (CX P w) P w K mg base N qual scope f cdv A outer s H E) rfl rfl rfl rfl).imp fun cls d σ H' ⟨m', env', h', C, fs, at_, e1, df, hmk, w'⟩ => by
        subst e1
        exact kx C fs h' w' m' H' d (at_.hp.marked hmk) at_.hp df
    have ht := hbody cdv A outer s H E _ (hr.deeper _) hG tk
    have at1 : At K (startE N evs) (h ++ [EO.mark m h.length H]) m (start N vs) H := At.mark ⟨R, start_rel N re⟩
    have pu := pure evs h Pk Wk sq (.mark m h.length H) rfl
    have E0 : Ex K m h.length H m (h ++ [EO.mark m h.length H]).length H := Ex.mark
    have up1 : upS K (t fun C fs _ h' => h'[h.length]? = some (.mark m h.length H) ∧ Wk C fs h') { nx := fun _ H' => Q .non H', rt := Q } (start N vs) H :=
      ⟨m, startE N evs, h ++ [EO.mark m h.length H], endsOf Pk, at1, pu, ⟨fun env' h' p m' H' σ' Ee a' => kq _ _ p m' H' _ (E0.trans Ee) a'.hp (by rw [RelE]), fun v h' p m' H' x Ee R' r' => kq _ _ p m' H' x (E0.trans Ee) R' r', fun _ _ z => z.elim, fun _ _ z => z.elim⟩⟩
    have run := ht.pss.run [] s1 (start N vs) H { nx := fun _ H' => Q .non H', rt := Q } I up1
    refine wpAny_mono run (fun fl s' hs => ?_) fun e s' hs => hs
    match fl, hs with
    | .ret u, ⟨v, σ', H', J, rv, z⟩ => exact ⟨v, H', J.os, J.bare, J.base, J.hok, rv, z⟩
    | .next, ⟨σ', H', J, z⟩ => exact ⟨.non, H', J.os, J.bare, J.base, J.hok, rfl, z⟩
    | .brk, ⟨_, _, _, z⟩ => exact z.elim
    | .cont, ⟨_, _, _, z⟩ => exact z.elim
end Y

namespace Y
open PySem PySem.Spec PyProof.Rows L2

abbrev Suite := Addr → Value → Option Addr → TS
def outOf (D : Ends) (i : Nat) : Ends := { nx := fun σ H => D.nx (σ.set i none) H, rt := D.rt, bk := fun σ H => D.bk (σ.set i none) H, ct := fun σ H => D.ct (σ.set i none) H }
def wName (K : PySem.W.Frag) (D : Ends) : List (Value × Nat × Suite) → WX
  | [] => fun _ _ _ _ => False
  | (c, i, ts) :: r => fun cls d σ H => ∃ b, PySem.W.exmOne K cls c = some b ∧ (b = true → ∀ a, H a = none → ts a cls d (outOf D i) (σ.set i (some (.ref a))) H) ∧ (b = false → wName K D r cls d σ H)
inductive HdsN (X : Cx) : List ExceptHandler → List (Value × Nat × Suite) → Prop
  | nil {hds : List ExceptHandler} : HdsN X hds []
  | cons {x n : Str} {c : Value} {i : Nat} {ts : Suite} {b₀ : Stmt} {suite : List Stmt} {np pos' : Pos} {hds : List ExceptHandler} {l : List (Value × Nat × Suite)} (hc : Names X x c) (hi : X.N[i]? = some n) (hl : X.env.kindOf n = some .local)
      (su : ∀ (a : Addr) (oe : Obj) (cls : Value) (d : Option Addr) (pn : List (Addr × Obj)), Zc cls d oe → (∃ vs, oe.data = .fields vs) → PSs (X.suite a ((a, oe) :: pn)) (b₀ :: suite) (ts a cls d)) (r : HdsN X hds l) :
      HdsN X (.ExceptHandler (some (.Name x np)) (some n) (b₀ :: suite) pos' :: hds) ((c, i, ts) :: l)
section
variable {X : Cx}
theorem clauses {pins : List (Addr × Obj)} {σ : L2.St} {H : Hp} {sI s' : Shared} {a : Addr} {B : Heap} {cls : Value} {d : Option Addr} {D : Ends} {h3 : Heap} (hs : X.stack = X.env :: X.outer) (hf : X.env.frame = some X.env.locals) (hN : X.N.Nodup)
    (J : Inv X pins σ H sI) (nb : ∀ b o, sI.heap.get? b = some o → b ∉ frs X.stack → B.get? b = some o) (up3 : sI.heap.UpToSlots h3) (fl3 : HandSPX.FlyingZ B (X.env :: X.outer) a (Zc cls d) h3) (na : H a = none) (os : s'.os = sI.os) (ag : AllBare s'.gens) :
    ∀ {hds : List ExceptHandler} {l : List (Value × Nat × Suite)}, HdsN X hds l → wName X.K D l cls d σ H → wpAny (model X.prog X.w) X.A (handleBy (.ref a) X.env hds) (SP X pins D) X.xe { s' with heap := h3 } := by
  have nofr : ∀ {h : Heap} {o : Obj} {vs : Array Value}, h.FunFrames B (X.env :: X.outer) → h.get? a = some o → o.data = .fields vs → a ∉ frs (X.env :: X.outer) := by
    intro h o vs ff z dd hm
    obtain ⟨_, o', z', hnf⟩ := ff.mem hm
    rw [z] at z'
    exact hnf vs (by cases z'; exact dd)
  obtain ⟨oe3, vs3, he3, hz3, hd3⟩ := fl3.there
  have nf := nofr fl3.2.2.1 he3 hd3
  have nL : a ≠ X.env.locals := fun z => nf (List.mem_filterMap.mpr ⟨X.env, by simp, by rw [hf, z]⟩)
  have nF : a ∉ X.fs := fun hm => by
    obtain ⟨env', he', z⟩ := List.mem_filterMap.mp hm
    exact nf (List.mem_filterMap.mpr ⟨env', by simp [he'], z⟩)
  have J3 : Inv X pins σ H { s' with heap := h3 } := J.landed nb fl3.1 up3 os ag
  have S3 := J3.suite he3 hd3 na nL nF
  intro hds l hk
  induction hk with
  | nil => exact fun w => w.elim
  | @cons x n c i ts b₀ suite np pos' hds l hc hi hl su _ ih =>
    intro w
    obtain ⟨b, hb, hyes, hno⟩ := w
    refine wpAny_handleBy_cons (codeAny_handlers_test ?_) (by intro z; cases z)
    have cl : PySem.W.Looks (model X.prog X.w) h3 (typeOf (.ref a)) cls := fun _ _ _ _ k z => wpAny_typeOf_ref (k _ _ he3) (by rw [hz3.1]; exact z)
    have mt := PySem.W.exm_one (M := model X.prog X.w) J3.kIn cl hb
    have named : ∀ {Q E : Value → Shared → Prop}, Q c { s' with heap := h3 } → wpAny (model X.prog X.w) (X.A.mark (some (.ref a))) (eval (.Name x np) X.env) Q E { s' with heap := h3 } := by
      intro Q E z
      obtain ⟨hg, hdb, e | ⟨e, hv, hnn⟩⟩ := hc
      · exact ld_glob (X := X.suite a ((a, oe3) :: (X.pn ++ pins))) S3 hg e z hdb
      · exact ld_blt (X := X.suite a ((a, oe3) :: (X.pn ++ pins))) S3 hg e hv z hnn hdb
    refine named (mt.here ?_)
    cases b with
    | false => exact ih (hno rfl)
    | true =>
      refine codeAny_handlers_suite_as (HandSPX.lands_againZ fl3 fun h4 fl4 up4 => ?_)
      obtain ⟨oe4, vs4, he4, hz4, hd4⟩ := fl4.there
      have J4 : Inv X pins σ H { s' with heap := h4 } := J.landed nb fl4.1 (up3.trans up4) os ag
      have S4 := J4.suite he4 hd4 na nL nF
      refine store_ok (X := X.suite a ((a, oe4) :: (X.pn ++ pins))) (v := .ref a) S4 hN hi (.inl hl) rfl (fun s5 S5 => ?_) (.inr hl)
      have run := (su a oe4 cls d (X.pn ++ pins) hz4 ⟨_, hd4⟩).run [] s5 _ H _ S5 (hyes rfl a na)
      have ends : ∀ {σ6 : L2.St} {H6 : Hp} {s6 : Shared} {Q : Shared → Prop}, Inv (X.suite a ((a, oe4) :: (X.pn ++ pins))) [] σ6 H6 s6 → (∀ s7, Inv X pins (σ6.set i none) H6 s7 → Q s7) →
          wpAny (model X.prog X.w) X.A (do bindName X.env n .none; unbindBehindTheSuite X.env n pos') (fun _ s7 => Q s7) X.xe s6 := fun S6 z => gone_ok (S6.unsuite J.ok) hN hi hl z
      refine wpAny_mono run (fun fl s6 z => ?_) (fun _ _ z => False.elim z)
      match fl, z with
      | .ret u, ⟨v6, σ6, H6, S6, r6, q6⟩ => exact ends S6 fun s7 J7 => ⟨_, _, _, J7, r6, q6⟩
      | .next, ⟨σ6, H6, S6, q6⟩ => exact ends S6 fun s7 J7 => ⟨_, _, J7, q6⟩
      | .brk, ⟨σ6, H6, S6, q6⟩ => exact ends S6 fun s7 J7 => ⟨_, _, J7, q6⟩
      | .cont, ⟨σ6, H6, S6, q6⟩ => exact ends S6 fun s7 J7 => ⟨_, _, J7, q6⟩
theorem ps_tryN {body : List Stmt} {h₀ : ExceptHandler} {hds : List ExceptHandler} {l : List (Value × Nat × Suite)} {pos : Pos} {tb : WX → TS} (hs : X.stack = X.env :: X.outer) (hf : X.env.frame = some X.env.locals) (hN : X.N.Nodup)
    (hb : ∀ (W : WX) (pn : List (Addr × Obj)) (xe : Value → Shared → Prop), Takes (X.tr pn xe) W → PassesOwn (model X.prog X.w) X.A X.env xe → PSs (X.tr pn xe) body (tb W))
    (hh : HdsN X (h₀ :: hds) l) : PS X (.Try body (h₀ :: hds) [] [] pos) (fun D σ H => tb (wName X.K D l) D σ H) := by
  refine ⟨fun pins s σ H D I h => wpAny_Try_except ?_⟩
  have ok := I.ok
  have fr2 : X.A.frames = some (X.env :: X.outer) := by rw [ok.frames, hs]
  have caught : Takes (X.tr (X.pn ++ pins) fun e s₁ => wpAny (model X.prog X.w) X.A (noteFrame e X.env) (fun _ s₂ => wpAny (model X.prog X.w) X.A (setFlight e none) (fun _ s₃ =>
      wpAny (model X.prog X.w) X.A (handleBy e X.env (h₀ :: hds)) (SP X pins D) X.xe s₃) X.xe s₂) X.xe s₁) (wName X.K D l) := by
    rintro u s' ⟨a, B, sI, pins', σ', H', cls, d, rfl, J', nb, up, sky, na, os, ag, w⟩
    have sky' : Sky B (X.env :: X.outer) a (Zc cls d) X.env.locals s'.heap := by rw [← hs]; exact sky
    refine Sky.land Zc.steady fr2 hf sky' fun h3 fl3 up3 => ?_
    exact clauses hs hf hN (J'.ofTry ok) nb (up.trans up3) fl3 na os ag hh w
  refine wpAny_mono ((hb _ (X.pn ++ pins) _ caught PassesOwn.looking).run [] s σ H D (I.toTry _) h) (fun fl s1 z => ?_) (fun e s1 z => z)
  match fl, z with
  | .next, ⟨σ', H', J', q⟩ => exact wpAny_execs_nil ⟨σ', H', J'.ofTry ok, q⟩
  | .brk, ⟨σ', H', J', q⟩ => exact ⟨σ', H', J'.ofTry ok, q⟩
  | .cont, ⟨σ', H', J', q⟩ => exact ⟨σ', H', J'.ofTry ok, q⟩
  | .ret u, ⟨v, σ', H', J', r, q⟩ => exact ⟨v, σ', H', J'.ofTry ok, r, q⟩
end
inductive HK where
  | tup (s : List Nat)
  | lst (s : List Nat)
def HK.run : HK → EV → EH → EK → Prop
  | .tup s => fun x h rt => rt (.tup [.str s, x]) h
  | .lst s => fun x h rt => rt (.ref h.length) (h ++ [.lst [.str s, x]])
abbrev HC := Addr × Str × HK × Nat
def wHds (rt : EK) : List HC → ED
  | [] => fun _ _ _ => False
  | (C1, f, k, _) :: r => fun C fs h => (C = C1 ∧ ∃ x, fs.lookup f = some x ∧ k.run x h rt) ∨ wHds rt r C fs h
def lTry (tb : EW → LS) (L : List HC) : LS := fun D env h => ∀ mk, isF mk = true → tb (fun C fs _ h' => h'[h.length]? = some mk ∧ wHds D.rt L C fs h') D env (h ++ [mk])
def HK.ts (C : Addr) (f : Str) (i : Nat) (k : HK) : Suite := fun a cls d D σ H => (i < σ.length → σ[i]? = some (some (.ref a))) ∧ cls = .ref C ∧ ∃ dd l v, d = some dd ∧ H dd = some (.xd l) ∧ l.lookup f = some v ∧ match k with
  | .tup s => ∀ p, H p = none → D.rt (.ref p) (upd H p (.tup [.str (S s), v]))
  | .lst s => ∀ p, H p = none → D.rt (.ref p) (upd H p (.lst [.str (S s), v]))
def HC.suite (c : HC) : Value × Nat × Suite := (.ref c.1, c.2.2.2, c.2.2.1.ts c.1 c.2.1 c.2.2.2)
def ExclA (K : PySem.W.Frag) (C : Addr) : List HC → Prop
  | [] => True
  | c :: r => PySem.W.exmOne K (.ref c.1) (.ref C) = some false ∧ ExclA K C r
def Excl (K : PySem.W.Frag) : List HC → Prop
  | [] => True
  | c :: r => PySem.W.exmOne K (.ref c.1) (.ref c.1) = some true ∧ ExclA K c.1 r ∧ Excl K r
section
variable {K : PySem.W.Frag} {m m' : Nat → Addr} {n n' : Nat} {H H' : Hp} {h h' : EH}
theorem RelFs.look : ∀ {fs : List (Str × EV)} {l : List (Str × V)} {f : Str} {x : EV}, RelFs K m n H fs l → fs.lookup f = some x → ∃ v, l.lookup f = some v ∧ RelE K m n H x v
  | [], _, _, _, _, e => nomatch e
  | (g, y) :: r, _, f, x, q, e => by
    obtain ⟨v, l', rfl, r1, r2⟩ := q
    by_cases hf : f = g
    · subst hf
      simp [List.lookup] at e ⊢
      subst e
      exact r1
    · have hb : (f == g) = false := by simpa using hf
      simp only [List.lookup, hb] at e ⊢
      exact RelFs.look r2 e
theorem wHds_mem {rt : EK} {C : Addr} {fs : List (Str × EV)} : ∀ {L : List HC}, wHds rt L C fs h → ∃ c ∈ L, c.1 = C
  | [], q => q.elim
  | (C1, f, k, i) :: r, q => by
    rcases q with ⟨e, _⟩ | q
    · exact ⟨_, List.mem_cons_self .., e.symm⟩
    · obtain ⟨c, hc, e⟩ := wHds_mem q
      exact ⟨c, List.mem_cons_of_mem _ hc, e⟩
theorem ExclA.mem {C : Addr} : ∀ {L : List HC}, ExclA K C L → ∀ c ∈ L, PySem.W.exmOne K (.ref c.1) (.ref C) = some false
  | [], _, _, z => nomatch z
  | _ :: _, q, c, z => by
    rcases List.mem_cons.mp z with rfl | z
    · exact q.1
    · exact ExclA.mem q.2 c z
theorem wHds_sim {rt : EK} {D : Ends} {C : Addr} {d : Option Addr} {fs : List (Str × EV)} {σ : L2.St} (k : Kon K m' h'.length H' rt D.rt) (R : RelH K m' h' H') (df : DFs K m' h'.length H' d fs) :
    ∀ {L : List HC}, Excl K L → wHds rt L C fs h' → wName K D (L.map HC.suite) (.ref C) d σ H'
  | [], _, q => q.elim
  | (C1, f, hk, i) :: r, ex, q => by
    rcases q with ⟨rfl, x, ex1, q⟩ | q
    · obtain ⟨dx, l, rfl, hd, rf⟩ : ∃ dx l, d = some dx ∧ H' dx = some (.xd l) ∧ RelFs K m' h'.length H' fs l := by
        rcases df with z | ⟨_, z⟩
        · exact z
        · subst z; cases ex1
      refine ⟨true, ex.1, fun _ a ha => ⟨fun hi => List.getElem?_set_self (by simpa using hi), rfl, dx, l, ?_⟩, fun z => nomatch z⟩
      obtain ⟨v, e, rv⟩ := rf.look ex1
      refine ⟨v, rfl, hd, e, ?_⟩
      cases hk with
      | tup s => exact fun p hp => k.tup R q (.cons (by rw [RelE]) (.one rv)) hp
      | lst s => exact fun p hp => k.lst R q (.cons (by rw [RelE]) (.one rv)) hp
    · obtain ⟨c, hc, e⟩ := wHds_mem q
      refine ⟨false, ?_, fun z => absurd z Bool.false_ne_true, fun _ => wHds_sim k R df ex.2.2 q⟩
      rw [← e]
      exact ex.2.1.mem c hc
end
section
variable {X : Cx}
theorem suite_tup {C a : Addr} {x f n : Str} {i : Nat} {s : List Nat} {st : Str} {oe : Obj} {cls : Value} {d : Option Addr} {pn : List (Addr × Obj)} {j : Nat} {kk : Nat} {p0 p1 p2 p3 p4 : Pos} (T : ExcC X.prog X.K C x f) (es : st = S s) (hi : X.N[i]? = some n) (hl : X.env.kindOf n = some .local)
    (hd : (n == ("__debug__" : Str)) = false) (hcd : (n == ("__classdict__" : Str)) = false) (hz : Zc cls d oe) (hf : ∃ vs, oe.data = .fields vs) (hb : attributeBase (.Name n p1) f X.env (eval (.Name n p1) X.env) = eval (.Name n p1) X.env)
    (hse1 : starEach [.Constant (.str st) j p0, .Attribute (.Name n p1) f p2] X.env = (false, eval (.Constant (.str st) j p0) X.env) :: starEach [.Attribute (.Name n p1) f p2] X.env) (hse2 : starEach [.Attribute (.Name n p1) f p2] X.env = (false, eval (.Attribute (.Name n p1) f p2) X.env) :: starEach [] X.env) :
    PSs (X.suite a ((a, oe) :: pn)) [.Return (some (.Tuple [.Constant (.str st) j p0, .Attribute (.Name n p1) f p2] kk p3)) p4] (HK.ts C f i (.tup s) a cls d) := by
  subst es
  have base := pss_one (ps_ret (X := X.suite a ((a, oe) :: pn)) (pos := p4) (pe_tup (x1 := kk) (pos := p3) (pa_cons (pe_str (x := S s)) (pa_cons (pe_xf (pos := p2) T.xf T.no hz hf (pe_var (pos := p1) hi (.inl hl) hd hcd) hb) pa_nil hse2) hse1)))
  refine ⟨fun pins s0 σ H D I ⟨h1, h2, dd, l, v, e1, e2, e3, q⟩ => base.run pins s0 σ H D I ?_⟩
  have hlt : i < σ.length := by
    rw [I.len]
    exact (List.getElem?_eq_some_iff.mp hi).1
  exact ⟨_, h1 hlt, rfl, h2, dd, l, v, e1, e2, e3, by simp [sizeLine_eq], q⟩
inductive HdsE (X : Cx) : List ExceptHandler → List HC → Prop
  | nil {hds : List ExceptHandler} : HdsE X hds []
  | cons {x n f : Str} {C : Addr} {i : Nat} {k : HK} {st : Stmt} {np pos' : Pos} {hds : List ExceptHandler} {L : List HC} (hc : Names X x (.ref C)) (hi : X.N[i]? = some n) (hl : X.env.kindOf n = some .local)
      (su : ∀ (a : Addr) (oe : Obj) (cls : Value) (d : Option Addr) (pn : List (Addr × Obj)), Zc cls d oe → (∃ vs, oe.data = .fields vs) → PSs (X.suite a ((a, oe) :: pn)) [st] (k.ts C f i a cls d)) (r : HdsE X hds L) :
      HdsE X (.ExceptHandler (some (.Name x np)) (some n) [st] pos' :: hds) ((C, f, k, i) :: L)
theorem HdsE.hdsN {hds : List ExceptHandler} {L : List HC} (h : HdsE X hds L) : HdsN X hds (L.map HC.suite) := by
  induction h with
  | nil => exact .nil
  | cons hc hi hl su _ ih => exact .cons hc hi hl su ih
theorem ls_try {body : List Stmt} {h₀ : ExceptHandler} {hds : List ExceptHandler} {L : List HC} {pos : Pos} {tb : EW → LS} (hs : X.stack = X.env :: X.outer) (hf : X.env.frame = some X.env.locals) (hN : X.N.Nodup)
    (hb : ∀ (W : EW) (pn : List (Addr × Obj)) (xe : Value → Shared → Prop), Takes (X.tr pn xe) (upX X.K W) → PassesOwn (model X.prog X.w) X.A X.env xe → LSs (X.tr pn xe) body (tb W))
    (hh : HdsE X (h₀ :: hds) L) (ex : Excl X.K L) : LSt X (.Try body (h₀ :: hds) [] [] pos) (lTry tb L) := by
  have hand := ps_tryN (X := X) (body := body) (pos := pos) (tb := fun W D σ H => ∃ W' : EW, (∀ c d σ H, upX X.K W' c d σ H → W c d σ H) ∧ upS X.K (tb W') D σ H) hs hf hN
    (fun W pn xe tk po => ⟨fun pins s σ H D I ⟨W', im, q⟩ => (hb W' pn xe (tk.imp im) po).pss.run pins s σ H D I q⟩) hh.hdsN
  refine ⟨PS.imp hand fun D σ H ⟨m, env, h, P, at_, t1, k⟩ => ?_⟩
  have E0 : Ex X.K m h.length H m (h ++ [EO.mark m h.length H]).length H := Ex.mark
  refine ⟨fun C fs _ h' => h'[h.length]? = some (.mark m h.length H) ∧ wHds P.rt L C fs h', ?_, m, env, h ++ [EO.mark m h.length H], P, at_.mark, t1 _ rfl, k.ex E0⟩
  rintro cls d σ' H' ⟨m', env', h', C, fs, a', rfl, df, hmk, w⟩
  exact wHds_sim (k.rt.ex (a'.hp.marked hmk)) a'.hp df ex w
end
end Y

namespace Y
open PySem PySem.Spec PyProof.Rows L2

def oexB (K : PySem.W.Frag) (C : Addr) : Bool := (match K.lookup C with
    | some ⟨.type "type", _, .cls cd, sl⟩ => (match cd.mro, sl.toList with
      | .ref C' :: bm, [_, _, _, _, some (.builtin n), _] => decide (C' = C) && (decide (n = "ValueError.__new__") && (cd.hasDict && (!cd.hasDel && HandSPX.refsVE bm)))
      | _, _ => false)
    | _ => false) && (decide (PySem.W.findIn K (.ref C) "__setattr__" = some (some (.builtin "object.__setattr__"))) && (decide (PySem.W.subIn K (.ref C) (.type "BaseException") = some true) && (decide (PySem.W.typeIn K (.ref C) = some (.type "type")) && PySem.W.keepIn K (.ref C))))
theorem ba2 {a b : Bool} (h : (a && b) = true) : a = true ∧ b = true := Bool.and_eq_true_iff.mp h
theorem oexB_ok {K : PySem.W.Frag} {C : Addr} (h : oexB K C = true) : OexC K C := by
  unfold oexB at h
  obtain ⟨h1, h⟩ := ba2 h
  obtain ⟨h2, h⟩ := ba2 h
  obtain ⟨h3, h⟩ := ba2 h
  obtain ⟨h4, h5⟩ := ba2 h
  refine ⟨?_, of_decide_eq_true h2, of_decide_eq_true h3, of_decide_eq_true h4, h5⟩
  split at h1
  · rename_i dd cd sl ho
    split at h1
    · rename_i C' bm k0 k1 k2 k3 n k5 hm hs
      obtain ⟨e1, h1⟩ := ba2 h1
      obtain ⟨e2, h1⟩ := ba2 h1
      obtain ⟨e3, h1⟩ := ba2 h1
      obtain ⟨e4, e5⟩ := ba2 h1
      have e1 := of_decide_eq_true e1
      have e2 := of_decide_eq_true e2
      subst e1 e2
      obtain ⟨nm, bs, mro, ns, qn, hd, sn, sub, ab, col, del⟩ := cd
      dsimp only at hm e3 e4
      subst hm e3
      have e4' : del = false := by simpa using e4
      subst e4'
      have hsl : sl = #[k0, k1, k2, k3, some (.builtin "ValueError.__new__"), k5] := by
        obtain ⟨l⟩ := sl
        simp only at hs
        rw [hs]
      subst hsl
      exact ⟨nm, qn, ns, bs, bm, sn, sub, ab, col, dd, k0, k1, k2, k3, k5, ho, e5⟩
    · cases h1
  · cases h1
def initBodyB (x f : Str) : List Stmt → Bool
  | [.Expr (.Call (.Attribute (.Call (.Name s _) [] [] _) i p2) [.Name x1 _] [] p4) _, .Assign [.Attribute (.Name s2 _) f2 _] (.Name x2 _) _] =>
    (p2.endLine == p4.line) && (decide (s = ("super" : Str)) && (decide (i = ("__init__" : Str)) && (decide (x1 = x) && (decide (s2 = ("self" : Str)) && (decide (f2 = f) && decide (x2 = x))))))
  | _ => false
theorem initBodyB_ok {x f : Str} {b : List Stmt} (h : initBodyB x f b = true) : InitBody x f b := by
  unfold initBodyB at h
  split at h
  · rename_i s p0 p1 i p2 x1 p3 p4 p5 s2 p6 f2 p7 x2 p8 p9
    obtain ⟨e0, h⟩ := ba2 h
    obtain ⟨e1, h⟩ := ba2 h
    obtain ⟨e2, h⟩ := ba2 h
    obtain ⟨e3, h⟩ := ba2 h
    obtain ⟨e4, h⟩ := ba2 h
    obtain ⟨e5, e6⟩ := ba2 h
    have e1 := of_decide_eq_true e1
    have e2 := of_decide_eq_true e2
    have e3 := of_decide_eq_true e3
    have e4 := of_decide_eq_true e4
    have e5 := of_decide_eq_true e5
    have e6 := of_decide_eq_true e6
    subst e1 e2 e3 e4 e5
    exact ⟨p0, p1, p2, p3, p4, p5, p6, p7, p8, p9, e0, by rw [e6]⟩
  · cases h
def paramsB (x : Str) : Arguments → Bool
  | ⟨[], [a1, a2], none, [], [], none, []⟩ => decide (a1.arg = ("self" : Str)) && decide (a2.arg = x)
  | _ => false
def scopeB (x : Str) (s : Scope) : Bool := decide (s.kind = .function) && (!s.isCoroutine && (!s.isGenerator && (decide (s.names.lookup ("super" : Str) = some .globalImplicit) && (decide (s.names.lookup ("__class__" : Str) = some .free) &&
  (decide (s.names.lookup ("self" : Str) = some .local) && (decide (s.names.lookup x = some .local) && s.names.all fun y => decide (y.2 ≠ .cell)))))))
def codeB (P : Program) (K : PySem.W.Frag) (cda : Addr) (q : Str) : Bool := PySem.W.codeIn K (.ref cda) q && (match K.lookup cda with
  | some ⟨_, _, .fields vs, _⟩ => (match (vs[2]? : Option Value) with
    | some (Value.str file _) => ((P.main.file : Str) == file)
    | _ => false)
  | _ => false)
def cellB (K : PySem.W.Frag) (C cc : Addr) : Bool := match K.lookup cc with
  | some ⟨_, _, .cell (some (.ref C')), _⟩ => decide (C' = C)
  | _ => false
def initFdB (P : Program) (K : PySem.W.Frag) (C : Addr) (x f : Str) : FuncData → Bool
  | ⟨_, q, ps, .stmts b, sc, gl, [(n, cc)], .none, _, _, _, _, .ref cda, _, bi⟩ =>
    paramsB x ps && (initBodyB x f b && (decide (gl = mainGlobals) && (decide (bi = builtinsNs) && (decide (n = ("__class__" : Str)) && (scopeB x sc && (codeB P K cda q && cellB K C cc))))))
  | _ => false
def initFnB (P : Program) (K : PySem.W.Frag) (C fI : Addr) (x f : Str) : Bool := !(x == ("self" : Str)) && (!(x == ("__debug__" : Str)) && (match K.lookup fI with
  | some ⟨_, _, .func fd, _⟩ => initFdB P K C x f fd
  | _ => false))
theorem initFnB_ok {P : Program} {K : PySem.W.Frag} {C fI : Addr} {x f : Str} (h : initFnB P K C fI x f = true) : InitFn P K C fI x f := by
  unfold initFnB at h
  obtain ⟨h1, h⟩ := ba2 h
  obtain ⟨h2, h⟩ := ba2 h
  refine ⟨?_, by simpa using h1, by simpa using h2⟩
  split at h
  · rename_i oc od fd osl lk
    unfold initFdB at h
    split at h
    · rename_i nm q ps b sc gl n cc kV doc pm an cda ct bi
      obtain ⟨a1, h⟩ := ba2 h
      obtain ⟨a2, h⟩ := ba2 h
      obtain ⟨a3, h⟩ := ba2 h
      obtain ⟨a4, h⟩ := ba2 h
      obtain ⟨a5, h⟩ := ba2 h
      obtain ⟨a6, h⟩ := ba2 h
      obtain ⟨a7, a8⟩ := ba2 h
      have a3 := of_decide_eq_true a3
      have a4 := of_decide_eq_true a4
      have a5 := of_decide_eq_true a5
      subst a3 a4 a5
      unfold paramsB at a1
      split at a1
      · rename_i g1 g2
        obtain ⟨b1, b2⟩ := ba2 a1
        unfold scopeB at a6
        obtain ⟨c1, a6⟩ := ba2 a6
        obtain ⟨c2, a6⟩ := ba2 a6
        obtain ⟨c3, a6⟩ := ba2 a6
        obtain ⟨c4, a6⟩ := ba2 a6
        obtain ⟨c5, a6⟩ := ba2 a6
        obtain ⟨c6, a6⟩ := ba2 a6
        obtain ⟨c7, c8⟩ := ba2 a6
        unfold codeB at a7
        obtain ⟨d1, d2⟩ := ba2 a7
        refine ⟨oc, od, osl, nm, q, g1, g2, b, sc, cc, cda, kV, doc, pm, ct, an, lk, of_decide_eq_true b1, of_decide_eq_true b2, initBodyB_ok a2, d1, of_decide_eq_true c1, by simpa using c2, by simpa using c3, of_decide_eq_true c4, of_decide_eq_true c5, of_decide_eq_true c6, of_decide_eq_true c7,
          fun y hy => of_decide_eq_true (List.all_eq_true.mp c8 y hy), ?_, ?_⟩
        · split at d2
          · rename_i ccl cdd vs ccs lkc
            split at d2
            · rename_i file tf hv
              exact ⟨ccl, cdd, vs, ccs, file, tf, lkc, hv, d2⟩
            · cases d2
          · cases d2
        · unfold cellB at a8
          split at a8
          · rename_i cl cld C' csl lkc
            have e := of_decide_eq_true a8
            subst e
            exact ⟨cl, cld, csl, lkc⟩
          · cases a8
      · cases a1
    · cases h
  · cases h
def excB (P : Program) (K : PySem.W.Frag) (C : Addr) (x f : Str) : Bool := oexB K C && (xfB K C && (decide (PySem.W.findIn K (.ref C) f = some none) && ((match PySem.W.findIn K (.ref C) "__init__" with
    | some (some (.ref fI)) => decide (PySem.W.typeIn K (.ref fI) = some (.type "function")) && initFnB P K C fI x f
    | _ => false) && (!(P.main.scope.names.lookup ("super" : Str)).isSome && (decide (PySem.W.nsIn K mainGlobals "super" = some none) && (decide (PySem.W.mroIn K C (.ref C) = some true) &&
  (decide (PySem.W.ks_superIn K C C "__init__" = some (some (.builtin "ValueError.__init__"))) && (decide (PySem.W.subIn K (.ref C) (.type "ValueError") = some true) && (decide (PySem.W.nsIn K cStatics "thirdparty.any" = some none) &&
    PySem.W.excInitIn K C [.type "ValueError", .type "Exception", .type "BaseException", .type "object"] "ValueError.__new__")))))))))
theorem excB_ok {P : Program} {K : PySem.W.Frag} {C : Addr} {x f : Str} (h : excB P K C x f = true) : ExcC P K C x f := by
  unfold excB at h
  obtain ⟨h1, h⟩ := ba2 h
  obtain ⟨h2, h⟩ := ba2 h
  obtain ⟨h3, h⟩ := ba2 h
  obtain ⟨h4, h⟩ := ba2 h
  obtain ⟨h5, h⟩ := ba2 h
  obtain ⟨h6, h⟩ := ba2 h
  obtain ⟨h7, h⟩ := ba2 h
  obtain ⟨h8, h⟩ := ba2 h
  obtain ⟨h9, h⟩ := ba2 h
  obtain ⟨h10, h11⟩ := ba2 h
  refine ⟨oexB_ok h1, xfB_ok h2, of_decide_eq_true h3, ?_, by simpa using h5, of_decide_eq_true h6, of_decide_eq_true h7, of_decide_eq_true h8, of_decide_eq_true h9, of_decide_eq_true h10, h11⟩
  split at h4
  · rename_i fI e
    obtain ⟨b1, b2⟩ := ba2 h4
    exact ⟨fI, e, of_decide_eq_true b1, initFnB_ok b2⟩
  · cases h4
def exmB (K : PySem.W.Frag) (C D : Addr) (b : Bool) : Bool := decide (PySem.W.exmOne K (.ref C) (.ref D) = some b)
theorem exmB_ok {K : PySem.W.Frag} {C D : Addr} {b : Bool} (h : exmB K C D b = true) : PySem.W.exmOne K (.ref C) (.ref D) = some b := of_decide_eq_true h
end Y

namespace Y
open PySem PySem.Spec PyProof.Rows L2
abbrev gOf (sp : LSpX) : LSp := fun evs h Q => sp evs h Q fun _ _ _ => False
theorem FnX.g {P : Program} {w : World} {K : PySem.W.Frag} {mg : Str → Option Value} {base : Heap} {k : Nat} {f : Addr} {fd : FuncData} {ps : List Str} {sp : LSpX} (Fn : FnX P w K mg base k f fd ps sp) : FnG P w K mg base k f fd ps (gOf sp) := by
  refine ⟨fun evs h Q q => Fn.len _ _ _ _ q, fun A outer s H args us vs Q hr hG e0 hb r q => ?_⟩
  obtain ⟨m, h, evs, Pk, R, re, sq, kq⟩ := q
  refine codeAny_mono (Fn.run A outer s H args us vs Q (fun _ _ _ => False) hr hG e0 hb r ⟨m, h, evs, Pk, _, R, re, sq, kq, fun _ _ _ z => z.elim⟩) fun o s' ho => ?_
  match o, ho with
  | .error er, ⟨_, _, _, _, _, _, _, _, _, _, _, _, z⟩ => exact z.elim
  | .ok (.ret u), ho => exact ho
  | .ok .next, ho => exact ho.elim
  | .ok .brk, ho => exact ho.elim
  | .ok .cont, ho => exact ho.elim
end Y

namespace Y
open PySem PySem.Spec PyProof.Rows L2
def missB (K : PySem.W.Frag) (a : Addr) (xs : List Str) : Bool := (!(a == sysModules)) && xs.all fun x => match PySem.W.nsIn K a x with
  | some none => true
  | _ => false
def KAbs (K : PySem.W.Frag) (w : World) (a : Addr) (x : Str) : Prop := ∃ es n, K.lookup a = some ⟨.type "dict", none, .dict es n, #[]⟩ ∧ PySem.W.KeysLit w.params es.toList ∧ PySem.W.nsIn K a x = some none
structure KNo (K : PySem.W.Frag) (w : World) (a : Addr) (no : List (List Nat)) : Prop where
  low : (a == sysModules) = false
  miss : ∀ x ∈ no, KAbs K w a (S x)
theorem missB_ok {K : PySem.W.Frag} {w : World} {a : Addr} {es : Array DictEntry} {n : Nat} {xs : List Str} {no : List (List Nat)} (hl : K.lookup a = some ⟨.type "dict", none, .dict es n, #[]⟩) (hk : PySem.W.KeysLit w.params es.toList)
    (e : xs = no.map S) (h : missB K a xs = true) : KNo K w a no := by
  unfold missB at h
  rw [Bool.and_eq_true] at h
  have low : (a == sysModules) = false := by
    cases z : a == sysModules with
    | false => rfl
    | true => rw [z] at h; exact absurd h.1 (by decide)
  refine ⟨low, fun x hx => ⟨es, n, hl, hk, ?_⟩⟩
  have := List.all_eq_true.mp h.2 (S x) (by rw [e]; exact List.mem_map_of_mem hx)
  split at this
  · assumption
  · cases this
def kinE (tb : List (List Nat × List Nat)) (no : List (List Nat)) (a : Addr) : LO := fun v w h P => match v, w with
  | .str s, .adr b => b = a ∧ ((∃ z, tb.lookup s = some z) ∧ P (.bl true) h ∨ s ∈ no ∧ P (.bl false) h)
  | _, _ => False
def rKin (K : PySem.W.Frag) (w : World) : R2 := fun x y H Q => ∃ p z, x = .str z ∧ y = .ref p ∧ (p == sysModules) = false ∧ ((∃ v, KDct K w p z v ∧ Q (.bl true) H) ∨ KAbs K w p z ∧ Q (.bl false) H)
section
variable {X : Cx}
theorem op_kin : OpR X (compareOp .In) (rKin X.K X.w) := by
  intro pins s σ H x y v u Q I rx ry ⟨p, z, ex, ey, low, q⟩
  subst ex ey
  obtain ⟨t, rfl⟩ := (show ∃ t, v = Value.str z t from rx)
  obtain rfl : u = Value.ref p := ry
  rcases q with ⟨v0, ⟨es, n, u0, hl, hk, e, ru⟩, q⟩ | ⟨⟨es, n, hl, hk, e⟩, q⟩
  · have hm := PySem.W.mapOf_K (prog := X.prog) (w := X.w) I.kIn hl hk
    refine wpAny_in_of (strKind_is X.prog X.w z t) low hm ?_
    rw [PySem.W.find_K hl e]
    exact ⟨.bl true, H, I.tok _, rfl, q⟩
  · have hm := PySem.W.mapOf_K (prog := X.prog) (w := X.w) I.kIn hl hk
    refine wpAny_in_of (strKind_is X.prog X.w z t) low hm ?_
    rw [PySem.W.find_K hl e]
    exact ⟨.bl false, H, I.tok _, rfl, q⟩
theorem lo_kin {a : Addr} {tb : List (List Nat × List Nat)} {no : List (List Nat)} (T : KTab X.K X.w a tb) (N : KNo X.K X.w a no) : LOpR X (compareOp .In) (kinE tb no a) := by
  refine ⟨_, op_kin, ?_⟩
  intro m h H v w x y P Q R rx ry q k
  unfold kinE at q
  split at q
  · rw [RelE] at rx
    rw [RelE] at ry
    subst rx ry
    obtain ⟨rfl, q⟩ := q
    refine ⟨_, _, rfl, rfl, N.low, ?_⟩
    rcases q with ⟨⟨z, e⟩, q⟩ | ⟨hn, q⟩
    · exact .inl ⟨_, T _ (lookup_mem e), k.same R q (by rw [RelE])⟩
    · exact .inr ⟨N.miss _ hn, k.same R q (by rw [RelE])⟩
  · exact q.elim
end
end Y

namespace Y
open PySem PySem.Spec PyProof.Rows L2
end Y

namespace Y
open PySem PySem.Spec PyProof.Rows L2

def clsE (v : EV) (h : EH) : Option Addr := match v with
  | .ref r => match h[r]? with
    | some (.slo D _) => some D
    | _ => none
  | _ => none
def tyNames : List String := ["NoneType", "bool", "int", "str", "list", "dict", "tuple"]
structure IsiC (K : PySem.W.Frag) (C : Addr) (cs : List (Addr × Bool)) : Prop where
  ty : ∀ t ∈ tyNames, PySem.W.kitOne K (.type t) (.ref C) = some false
  cl : ∀ q ∈ cs, PySem.W.kitOne K (.ref q.1) (.ref C) = some q.2
section
variable {K : PySem.W.Frag} {m : Nat → Addr} {h : EH} {H : Hp}
end
structure EqC (K : PySem.W.Frag) (C : Addr) (cs : List Addr) : Prop where
  ty : ∀ t ∈ tyNames, PySem.W.notFirst K C (.type t) = true
  cl : ∀ D ∈ cs, PySem.W.notFirst K C (.ref D) = true
def eqO (C : Addr) (cs : List Addr) (sp : LSp) (fb : LO) : LO := fun v w h P => match clsE v h with
  | some D => D = C ∧ (match clsE w h with
      | some D2 => D2 ∈ cs
      | none => match tyE w h with
        | some _ => True
        | none => False) ∧ sp [v, w] h P
  | none => fb v w h P
section
variable {K : PySem.W.Frag} {m : Nat → Addr} {h : EH} {H : Hp}
end
end Y

namespace Y
open PySem PySem.Spec PyProof.Rows L2

section
variable {M : Model} {A : Around} {E : Value → Shared → Prop} {s : Shared} {env : Env}
end
end Y

namespace Y
open PySem PySem.Spec PyProof.Rows L2

end Y

namespace Y
open PySem PySem.Spec PyProof.Rows L2

end Y

namespace Y
open PySem PySem.Spec PyProof.Rows L2

def MetOfX (X : Cx) (m : Str) (mt : Addr → Option LSpX) : Prop := ∀ C sp, mt C = some sp → SlX.SCls X.K C ∧ ∃ g k fd ps, Meth X.K C m g ∧ FnX X.prog X.w X.K X.mg X.base k g fd ps sp ∧ Room k X.A ∧ Binds X.K fd ps []
def metKX (mt : Addr → Option LSpX) (W : EW) (t : LA) (env : En) (P : EK) (v : EV) (h1 : EH) : Prop := match v with
  | .ref r => match h1[r]? with
    | some (.slo C _) => match mt C with
      | some sp => t env h1 fun vs h2 => sp (.ref r :: vs) h2 P fun C fs h3 => W C fs env h3
      | none => False
    | _ => False
  | _ => False
def lMetX (mt : Addr → Option LSpX) (W : EW) (to : LT) (t : LA) : LT := fun env h P => to env h fun v h1 => metKX mt W t env P v h1
section
variable {X : Cx} {pos pos' apos : Pos} {o e : Expr} {es : List Expr} {to te : LT} {t : LA} {W : EW}
theorem met1X {C g : Addr} {m : Str} {sp : LSpX} {k : Nat} {fd : FuncData} {ps : List Str} (c : SlX.SCls X.K C) (hm : Meth X.K C m g) (F : FnX X.prog X.w X.K X.mg X.base k g fd ps sp) (hr : Room k X.A) (hb : Binds X.K fd ps []) :
    MetOfX X m (List.lookup · [(C, sp)]) := by
  intro D sp' e
  have q := lookup_mem (show List.lookup D [(C, sp)] = some sp' from e)
  have e2 := List.mem_singleton.mp q
  cases e2
  exact ⟨c, g, k, fd, ps, hm, F, hr, hb⟩
theorem le_metX {mt : Addr → Option LSpX} {m : Str} {pl : Sem Bool} (T : MetOfX X m mt) (tk : Takes X (upX X.K W)) (hG : X.A.guards = some []) (ho : LE X o to) (ha : LAs X (e :: es) t)
    (hst : starEach (e :: es) X.env = (false, eval e X.env) :: starEach es X.env := by rfl) (hpl : (backTo pos (starEach es X.env)).any (·.1) = false := by rfl)
    (ht : eval (.Call (.Attribute o m apos) (e :: es) [] pos) X.env = (do
      let ov ← eval o X.env
      standAt apos.atName
      let (f, first) ← holding [ov] (getMethod ov m pl)
      callWith pos f first (backTo pos (starEach (e :: es) X.env)) (backToKw pos (keywordEach [] X.env))) := by rfl) :
    LE X (.Call (.Attribute o m apos) (e :: es) [] pos) (lMetX mt W to t) := by
  refine ⟨⟨fun pins s σ H Q I ⟨mm, env, h, P, at_, t1, k⟩ => ?_⟩⟩
  have hq : up X.K to σ H (fun x H1 => ∃ m1 h1 v, metKX mt W t env P v h1 ∧ Ex X.K mm h.length H m1 h1.length H1 ∧ RelH X.K m1 h1 H1 ∧ RelE X.K m1 h1.length H1 v x) := ⟨mm, env, h, _, at_, t1, fun v h1 p1 m1 H1 x E1 R1 r1 => ⟨m1, h1, v, p1, E1, R1, r1⟩⟩
  refine PySem.W.methodCall_KW (pl := pl) (thn (ho.pe.run pins s σ H _ I hq) fun u s1 ⟨x, H1, I1, rx, m1, h1, v, p1, E1, R1, r1⟩ => ?_) ht
  unfold metKX at p1
  split at p1
  · rename_i r
    rw [RelE] at r1
    obtain ⟨hlt, rfl⟩ := r1
    split at p1
    · rename_i C vs e
      obtain ⟨_, dx, ws, sl, _, _, _⟩ := R1.obj _ _ e
      split at p1
      · rename_i sp es
        obtain ⟨c, g, kk, fd, ps, hm, F, hr, hb⟩ := T _ _ es
        obtain rfl : u = Value.ref (m1 r) := rx
        refine SlX.getmethsl_ok I1 sl c hm ?_
        refine PySem.W.callWith_K (first := [.ref (m1 r)]) (h₀ := X.base) I.ok.mod.kin hm.kp (thn (ha.pa.run pos pins s1 σ H1 (fun vs H2 => upSpX X.K sp (.ref (m1 r) :: vs) H2 Q fun cls d H' => upX X.K W cls d σ H') I1 ⟨m1, env, h1, _, at_.ex E1 R1, p1, fun vs h2 p2 m2 H2 xs E2 R2 r2 =>
          ⟨m2, h2, _, P, _, R2, .cons (by rw [RelE]; exact ⟨Nat.lt_of_lt_of_le hlt E2.le, by rw [E2.eq _ hlt]⟩) r2, p2, k.ex (E1.trans E2), fun C fs h3 w3 m3 H3 d3 E3 R3 df => ⟨m3, env, h3, C, fs, ((at_.ex E1 R1).ex E2 R2).ex E3 R3, rfl, df, w3⟩⟩⟩) fun us s2 ⟨ws, H2, I2, rr, q2⟩ => ⟨I2.kIn, ?_⟩) hst hpl
        exact runX (us := .ref (m1 r) :: us) (vs := .ref (m1 r) :: ws) F tk hr hG hb I2 (.cons rfl rr) q2
      · exact p1.elim
    · exact p1.elim
  · exact p1.elim
end
end Y

namespace PySem
open Sem (wp)
set_option maxHeartbeats 1000000 in
theorem meets_enumerate_new1 {v : Value} {o : Obj} {H : Heap → Prop} (B : Begins v o H) :
    Meets (Builtin.«enumerate.__new__» ⟨[.type "enumerate", v], []⟩) (fun _ R s => H s.heap ∧
      R (.ok (.ret (.ref (s.heap.push o).objs.size))) { s with heap := (s.heap.push o).push { cls := .type "enumerate", data := .fields #[.none, .bool false, .ref s.heap.objs.size, rawInt 0, .none, .none] } }) :=
  .of_wp fun prog w A R s h => by
    obtain ⟨hp, g, d, tk, os⟩ := s; obtain ⟨h1, h⟩ := h
    have hsub := sub_enumerate
    have q1 : ∀ {A' : Around} {E : Value → Shared → Prop} {Q : Value → Shared → Prop}, Q (.ref hp.objs.size) ⟨hp.push o, g, d, tk, os⟩ → wpAny (model prog w) A' (pyIter v) Q E ⟨hp, g, d, tk, os⟩ :=
      fun q => B.iter prog w _ _ ⟨hp, g, d, tk, os⟩ _ h1 q
    wp_walk using q1
    refine wpAny_stack_any fun st => wpAny_pure ?_
    split
    · rename_i c _ _ _ _ _
      cases (c == Value.type "enumerate")
      · wp_walk using q1
        exact ⟨_, rfl, h⟩
      · wp_walk using q1
        exact ⟨_, rfl, h⟩
    · wp_walk using q1
      exact ⟨_, rfl, h⟩
section
variable {prog : Program} {w : World} {A : Around} {E : Value → Shared → Prop} {s : Shared}
end
end PySem
namespace Y
open PySem PySem.Spec PyProof.Rows L2

end Y

namespace Y
open PySem PySem.Spec PyProof.Rows L2

theorem u2 {k : Nat} {A : Around} (r : Room k A) : A.units + 2 < cLine := by have := r.un; omega
theorem KT.keys {H : Hp} {kvs : List (List L2.Key × V)} {xs : List (List L2.Key × Addr × Value)} (r : KT H kvs xs) : xs.map (·.1) = kvs.map (·.1) := by
  induction r with
  | nil => rfl
  | cons h _ ih => rw [List.map_cons, List.map_cons, ih, h.1]
end Y

namespace Y
open PySem PySem.Spec PyProof.Rows L2

theorem DpAll.len {K : PySem.W.Frag} {H : Hp} : ∀ {ds : List PyData} {vs : List V}, DpAll K H vs ds → vs.length = ds.length
  | [], _, h => by cases h; rfl
  | d :: ds, _, h => by
    cases h with
    | cons a b => simp [DpAll.len b]
theorem DpAll.at {K : PySem.W.Frag} {H : Hp} : ∀ {ds : List PyData} {vs : List V}, DpAll K H vs ds → ∀ j (h1 : j < vs.length) (h2 : j < ds.length), Dp K H vs[j] ds[j]
  | [], _, h, j, h1, h2 => by simp at h2
  | d :: ds, _, h, j, h1, h2 => by
    cases h with
    | cons a b =>
      cases j with
      | zero => exact a
      | succ j => exact DpAll.at b j (Nat.lt_of_succ_lt_succ h1) (Nat.lt_of_succ_lt_succ h2)
theorem Dats.pl {h : EH} {n : Nat} : ∀ {xs : List EV} {ds : List PyData}, Dats h n xs ds → ∀ e ∈ ds, e.plain = true
  | [], _, d, e, he => by cases d; cases he
  | x :: xs, _, d, e, he => by
    cases d with
    | cons a b =>
      rcases List.mem_cons.mp he with rfl | he
      · exact (Dat.dep _ _ _ a).2
      · exact Dats.pl b e he
section
variable {X : Cx}
end
end Y

namespace Y
open PySem PySem.Spec PyProof.Rows L2
set_option maxHeartbeats 4000000 in
theorem tuple_mul1 (l : Addr) (items : Array Value) (n : Nat) (dd : Option Addr) (sl : Array (Option Value)) (u : Tok) :
    Meets (Builtin.«tuple.__mul__» ⟨[.ref l, .int 1 u], []⟩) (fun _ R s => s.heap.get? l = some { cls := .type "tuple", dict := dd, data := .seq items n, slots := sl } ∧
      R (.ok (.ret (Value.ref l))) s) :=
  .of_wp fun prog w A R s h => by
    obtain ⟨hp, g, d, tk, os⟩ := s
    obtain ⟨hl, h⟩ := h
    have f1 := AutoSeq1.idx_int
    have c0 : (decide ((1 : Int) < -(2 ^ 63)) || decide ((1 : Int) ≥ 2 ^ 63)) = false := by decide
    have c1 : (items.isEmpty || ((1 : Int) == 1)) = true := by simp
    wp_walk using wpAny_loadPart' hl
    repeat (first
      | (refine wpAny_ite_false (decide_eq_false (by rw [c0]; exact Bool.false_ne_true)) ?_; wp_walk using wpAny_loadPart' hl)
      | (refine wpAny_ite_true (decide_eq_true (by rw [c1])) ?_; wp_walk using wpAny_loadPart' hl))
    exact ⟨_, rfl, h⟩
set_option maxHeartbeats 4000000 in
theorem tuple_mul0 (l : Addr) (items : Array Value) (n : Nat) (dd : Option Addr) (sl : Array (Option Value)) (u : Tok) (c : items.isEmpty = false) :
    Meets (Builtin.«tuple.__mul__» ⟨[.ref l, .int 0 u], []⟩) (fun _ R s => s.heap.get? l = some { cls := .type "tuple", dict := dd, data := .seq items n, slots := sl } ∧
      R (.ok (.ret (Value.ref s.heap.objs.size))) { s with heap := s.heap.push { cls := Value.type "tuple", data := Data.seq #[] }, toks := s.toks }) :=
  .of_wp fun prog w A R s h => by
    obtain ⟨hp, g, d, tk, os⟩ := s
    obtain ⟨hl, h⟩ := h
    have f1 := AutoSeq1.idx_int
    have c0 : (decide ((0 : Int) < -(2 ^ 63)) || decide ((0 : Int) ≥ 2 ^ 63)) = false := by decide
    have c1 : (items.isEmpty || ((0 : Int) == 1)) = false := by rw [c]; rfl
    have c2 : (decide ((0 : Int) ≤ 0) || items.isEmpty) = true := by simp
    wp_walk using wpAny_loadPart' hl
    repeat (first
      | (refine wpAny_ite_false (decide_eq_false (by rw [c0]; exact Bool.false_ne_true)) ?_; wp_walk using wpAny_loadPart' hl)
      | (refine wpAny_ite_false (decide_eq_false (by rw [c1]; exact Bool.false_ne_true)) ?_; wp_walk using wpAny_loadPart' hl)
      | (refine wpAny_ite_true (decide_eq_true (by rw [c2])) ?_; wp_walk using wpAny_loadPart' hl))
    exact ⟨_, rfl, h⟩
section
variable {X : Cx}
end
end Y

namespace Y
open PySem PySem.Spec PyProof.Rows L2
def obsZ (n : Nat) (fa : List He.Fa) (fn : List He.DefD) (ts : List He.Tab) (ex : PySem.W.Frag → Bool) (g : Addr → Option Obj) : He.AlX := (He.obsT fa fn ts (He.frT g (List.range n)), ex (He.frT g (List.range n)))
def hookZ (n : Nat) (fa : List He.Fa) (fn : List He.DefD) (ts : List He.Tab) (ex : PySem.W.Frag → Bool) : PySem.W.Hook where
  α := He.AlX
  obs := fun s => obsZ n fa fn ts ex s.heap.get?
  val := fun w => He.valX fn ts w
  says := fun w h => ∃ K : PySem.W.Frag, K.In h ∧ He.SaysX fa fn ts [] ex w h K
  of := fun w s e => ⟨He.frT s.heap.get? (List.range n), He.frT_in, { t := congrArg (fun z : He.AlX => z.1) e, more := congrArg (fun z : He.AlX => z.2) e, hd := fun p hp => by simp at hp, out := fun p hp => by simp at hp, empty := fun p hp => by simp at hp }⟩
  keeps := fun _ _ _ ⟨K, hK, c⟩ k => ⟨K, PySem.W.Frag.In.keeps hK k, ⟨c.t, c.more, c.hd, c.out, fun p hp => k _ _ (c.empty p hp)⟩⟩
end Y

namespace Y
open PySem PySem.Spec PyProof.Rows L2
open AutoSeq1 (wpAny_loadPart')
section
variable {X : Cx}
inductive DatW (h : EH) : EV → PyData → Prop
  | x {v : EV} {d : PyData} : DatX h v d → DatW h v d
  | tup {xs : List EV} {ds : List PyData} : DatEs h xs ds → DatW h (.tup xs) (.tuple ds)
def strI : LC := fun vs h P => match vs with
  | [.int i] => i.natAbs.log2 < 1920 ∧ P (.str (toString i : Str).cps.toList) h
  | _ => False
theorem lc_strI : LCallR X (.type "str") strI := by
  refine ⟨_, call_str_int, ?_⟩
  intro m h H vs xs P Q R r0 q k
  unfold strI at q
  split at q
  · obtain ⟨v, rfl, r⟩ := r0.one_inv
    rw [RelE] at r
    subst r
    exact ⟨_, rfl, q.1, k.same R q.2 (by rw [RelE])⟩
  · exact q.elim
end
end Y

namespace Y
open PySem PySem.Spec PyProof.Rows L2

structure Exc0 (K : PySem.W.Frag) (C : Addr) : Prop where
  ei : PySem.W.excIn K C He.veBase "ValueError.__new__" = true
  kp : PySem.W.keepIn K (.ref C) = true
  sub : PySem.W.subIn K (.ref C) (.type "BaseException") = some true
  ty : PySem.W.typeIn K (.ref C) = some (.type "type")
section
variable {X : Cx} {W : EW}
end
inductive HdsG (X : Cx) : List ExceptHandler → List (Value × Option Nat × Suite) → Prop
  | nil {hds : List ExceptHandler} : HdsG X hds []
  | named {x n : Str} {c : Value} {i : Nat} {ts : Suite} {b₀ : Stmt} {suite : List Stmt} {np pos' : Pos} {hds : List ExceptHandler} {l : List (Value × Option Nat × Suite)} (hc : Names X x c) (hi : X.N[i]? = some n) (hl : X.env.kindOf n = some .local)
      (su : ∀ (a : Addr) (oe : Obj) (cls : Value) (d : Option Addr) (pn : List (Addr × Obj)), Zc cls d oe → (∃ vs, oe.data = .fields vs) → PSs (X.suite a ((a, oe) :: pn)) (b₀ :: suite) (ts a cls d)) (r : HdsG X hds l) :
      HdsG X (.ExceptHandler (some (.Name x np)) (some n) (b₀ :: suite) pos' :: hds) ((c, some i, ts) :: l)
  | plain {x : Str} {c : Value} {ts : Suite} {b₀ : Stmt} {suite : List Stmt} {np pos' : Pos} {hds : List ExceptHandler} {l : List (Value × Option Nat × Suite)} (hc : Names X x c)
      (su : ∀ (a : Addr) (oe : Obj) (cls : Value) (d : Option Addr) (pn : List (Addr × Obj)), Zc cls d oe → (∃ vs, oe.data = .fields vs) → PSs (X.suite a ((a, oe) :: pn)) (b₀ :: suite) (ts a cls d)) (r : HdsG X hds l) :
      HdsG X (.ExceptHandler (some (.Name x np)) none (b₀ :: suite) pos' :: hds) ((c, none, ts) :: l)
section
variable {X : Cx}
end
inductive GC where
  | named (C : Addr) (f : Str) (k : HK) (i : Nat)
  | plain (C : Addr) (t : LS)
def GC.cls : GC → Addr
  | .named C _ _ _ => C
  | .plain C _ => C
def GC.suite (K : PySem.W.Frag) : GC → Value × Option Nat × Suite
  | .named C f k i => (.ref C, some i, k.ts C f i)
  | .plain C t => (.ref C, none, fun _ _ _ D σ H => upS K t D σ H)
section
variable {K : PySem.W.Frag} {m' : Nat → Addr} {H' : Hp} {h' : EH}
end
section
variable {X : Cx}
inductive HdsT (X : Cx) : List ExceptHandler → List GC → Prop
  | nil {hds : List ExceptHandler} : HdsT X hds []
  | named {x n f : Str} {C : Addr} {i : Nat} {k : HK} {st : Stmt} {np pos' : Pos} {hds : List ExceptHandler} {L : List GC} (hc : Names X x (.ref C)) (hi : X.N[i]? = some n) (hl : X.env.kindOf n = some .local)
      (su : ∀ (a : Addr) (oe : Obj) (cls : Value) (d : Option Addr) (pn : List (Addr × Obj)), Zc cls d oe → (∃ vs, oe.data = .fields vs) → PSs (X.suite a ((a, oe) :: pn)) [st] (k.ts C f i a cls d)) (r : HdsT X hds L) :
      HdsT X (.ExceptHandler (some (.Name x np)) (some n) [st] pos' :: hds) (.named C f k i :: L)
  | plain {x : Str} {C : Addr} {t : LS} {b₀ : Stmt} {suite : List Stmt} {np pos' : Pos} {hds : List ExceptHandler} {L : List GC} (hc : Names X x (.ref C))
      (su : ∀ (a : Addr) (oe : Obj) (pn : List (Addr × Obj)), LSs (X.suite a ((a, oe) :: pn)) (b₀ :: suite) t) (r : HdsT X hds L) :
      HdsT X (.ExceptHandler (some (.Name x np)) none (b₀ :: suite) pos' :: hds) (.plain C t :: L)
end
end Y

namespace Y
open PySem PySem.Spec PyProof.Rows L2

section
variable {X : Cx} {a b : Expr} {t : TA} {ta : LA} {p1 p2 p3 pos : Pos}
end
theorem FnG.sub {P : Program} {w : World} {K : PySem.W.Frag} {mg : Str → Option Value} {base : Heap} {k : Nat} {f : Addr} {fd : FuncData} {ps : List Str} {sp sp2 : LSp} (F : FnG P w K mg base k f fd ps sp) (hs : ∀ evs h Q, sp2 evs h Q → sp evs h Q) : FnG P w K mg base k f fd ps sp2 := by
  refine ⟨fun evs h Q q => F.len _ _ _ (hs _ _ _ q), fun A outer s H args us vs Q hr hG e0 hb r q => ?_⟩
  obtain ⟨m, h, evs, Pk, R, re, sq, kq⟩ := q
  exact F.run A outer s H args us vs Q hr hG e0 hb r ⟨m, h, evs, Pk, R, re, hs _ _ _ sq, kq⟩
end Y

namespace Y
open PySem PySem.Spec PyProof.Rows L2

section
variable {X : Cx} {a b : Expr} {ta : LA} {p1 p2 p3 pos : Pos}
end
theorem vals_ints : ∀ {ss : List Int} {us : List Value}, Vals (ss.map V.int) us → IntsAre us ss
  | [], us, r => by rw [List.map_nil] at r; cases r; exact .nil
  | s :: ss, us, r => by
    rw [List.map_cons] at r
    cases r with
    | cons h t =>
      obtain ⟨k, rfl⟩ := h
      exact .cons _ _ (vals_ints t)
end Y

namespace Y
open PySem PySem.Spec PyProof.Rows L2
end Y

namespace Y
open PySem PySem.Spec PyProof.Rows L2
abbrev TgR := EV → En → EH → (En → EH → Prop) → Prop
def putsT : List TgR → List EV → En → EH → (En → EH → Prop) → Prop
  | [], [], env, h, P => P env h
  | t :: ts, v :: vs, env, h, P => t v env h fun env h => putsT ts vs env h P
  | _, _, _, _, _ => False
structure LTg (X : Cx) (tg : Expr) (t : TgR) : Prop where
  ex : ∃ g : TG, PG X tg g ∧ ∀ (m : Nat → Addr) (env : En) (h : EH) (σ : L2.St) (H : Hp) (v : EV) (x : V) (P : En → EH → Prop) (Q : L2.St → Hp → Prop), At X.K env h m σ H → RelE X.K m h.length H v x → t v env h P →
    (∀ env' h', P env' h' → ∀ (m' : Nat → Addr) (σ' : L2.St) (H' : Hp), Ex X.K m h.length H m' h'.length H' → At X.K env' h' m' σ' H' → Q σ' H') → g x σ H Q
structure LTgs (X : Cx) (es : List Expr) (ts : List TgR) : Prop where
  ex : ∃ g : TGs, PGs X es g ∧ ∀ (m : Nat → Addr) (env : En) (h : EH) (σ : L2.St) (H : Hp) (vs : List EV) (xs : List V) (P : En → EH → Prop) (Q : L2.St → Hp → Prop), At X.K env h m σ H → RelEs X.K m h.length H vs xs → putsT ts vs env h P →
    (∀ env' h', P env' h' → ∀ (m' : Nat → Addr) (σ' : L2.St) (H' : Hp), Ex X.K m h.length H m' h'.length H' → At X.K env' h' m' σ' H' → Q σ' H') → g xs σ H Q
  len : es.length = ts.length
end Y

namespace Y
open PySem PySem.Spec PyProof.Rows L2
section
variable {X : Cx}
end
end Y

namespace Y
open PySem PySem.Spec PyProof.Rows L2
end Y

namespace Y
open PySem PySem.Spec PyProof.Rows L2
end Y

namespace Y
open PySem PySem.Spec PyProof.Rows L2
section
variable {X : Cx}
end
end Y

namespace Y
open PySem PySem.Spec PyProof.Rows L2
inductive DatG (h : EH) : EV → PyData → Prop
  | fl {v : EV} {d : PyData} : Dat h 50 v d → flatD d = true → DatG h v d
  | dic {r : Nat} {kvs : List (EV × EV)} {ps : List (L2.Key × PyData)} : h[r]? = some (.dic kvs) → DKV h kvs ps → DatG h (.ref r) (dicD ps)
inductive DatGs (h : EH) : List EV → List PyData → Prop
  | nil : DatGs h [] []
  | cons {v : EV} {d : PyData} {vs : List EV} {ds : List PyData} : DatG h v d → DatGs h vs ds → DatGs h (v :: vs) (d :: ds)
inductive DatF (h : EH) : EV → PyData → Prop
  | e {v : EV} {d : PyData} : DatE h v d → DatF h v d
  | tp {xs : List EV} {ds : List PyData} : DatGs h xs ds → DatF h (.tup xs) (.tuple ds)
inductive DatFs (h : EH) : List EV → List PyData → Prop
  | nil : DatFs h [] []
  | cons {v : EV} {d : PyData} {vs : List EV} {ds : List PyData} : DatF h v d → DatFs h vs ds → DatFs h (v :: vs) (d :: ds)
inductive DpG (K : PySem.W.Frag) (H : Hp) : V → PyData → Prop
  | fl {v : V} {d : PyData} : Dp K H v d → d.depth ≤ 50 → d.plain = true → flatD d = true → DpG K H v d
  | dic {a : Addr} {l : List (L2.Key × V)} {ps : List (L2.Key × PyData)} : H a = some (.dK l) → DRow K H l ps → DpG K H (.ref a) (dicD ps)
inductive DpF (K : PySem.W.Frag) (H : Hp) : V → PyData → Prop
  | e {v : V} {d : PyData} : DpE K H v d → DpF K H v d
  | tp {a : Addr} {xs : List V} {ds : List PyData} : SqT K H a xs → Paired (DpG K H) xs ds → DpF K H (.ref a) (.tuple ds)
section
variable {K : PySem.W.Frag} {m : Nat → Addr} {H : Hp} {h : EH}
theorem DatG.dp (R : RelH K m h H) {v : EV} {x : V} {d : PyData} (a : DatG h v d) (r : RelE K m h.length H v x) : DpG K H x d := by
  cases a with
  | fl a f => exact .fl (Dat.dp R _ _ _ _ a r) (Dat.dep _ _ _ a).1 (Dat.dep _ _ _ a).2 f
  | dic e b =>
    rw [RelE] at r
    obtain ⟨_, rfl⟩ := r
    obtain ⟨l, hl, rl⟩ := R.obj _ _ e
    exact .dic hl (DKV.row R b rl)
theorem DatGs.dp (R : RelH K m h H) : ∀ {vs : List EV} {xs : List V} {ds : List PyData}, DatGs h vs ds → RelEs K m h.length H vs xs → Paired (DpG K H) xs ds
  | _, _, _, .nil, r => by rw [RelEs] at r; subst r; exact .nil
  | _, _, _, .cons a b, r => by
    rw [RelEs] at r
    obtain ⟨v, l, rfl, r1, r2⟩ := r
    exact .cons (DatG.dp R a r1) (DatGs.dp R b r2)
theorem DatF.dp (R : RelH K m h H) {v : EV} {x : V} {d : PyData} (a : DatF h v d) (r : RelE K m h.length H v x) : DpF K H x d := by
  cases a with
  | e a => exact .e (DatE.dp R a r)
  | tp b =>
    rw [RelE] at r
    obtain ⟨a, us, rfl, ha, rs⟩ := r
    exact .tp (SqT.of ha) (DatGs.dp R b rs)
theorem DatFs.dp (R : RelH K m h H) : ∀ {vs : List EV} {xs : List V} {ds : List PyData}, DatFs h vs ds → RelEs K m h.length H vs xs → Paired (DpF K H) xs ds
  | _, _, _, .nil, r => by rw [RelEs] at r; subst r; exact .nil
  | _, _, _, .cons a b, r => by
    rw [RelEs] at r
    obtain ⟨v, l, rfl, r1, r2⟩ := r
    exact .cons (DatF.dp R a r1) (DatFs.dp R b r2)
end
section
variable {X : Cx} {pins : List (Addr × Obj)} {σ : L2.St} {H : Hp} {s : Shared}
theorem DpG.reads (I : Inv X pins σ H s) {v : V} {u : Value} {d : PyData} (a : DpG X.K H v d) (r : RelV v u) : ∃ as, Reads s.heap u d as ∧ sysModules ∉ as := by
  cases a with
  | fl a _ _ f =>
    obtain ⟨as, rd⟩ := Dp.reads I _ _ _ a r
    have := flat_as _ _ _ f rd
    subst this
    exact ⟨[], rd, by simp⟩
  | dic e b =>
    obtain ⟨as, rd, hs⟩ := (DpE.dic e b).reads I r
    exact ⟨as, rd, hs rfl⟩
theorem DpG.depth {K : PySem.W.Frag} {v : V} {d : PyData} (a : DpG K H v d) : d.depth ≤ 55 := by
  cases a with
  | fl _ dd _ _ => omega
  | dic e b => exact (DpE.dic (K := K) e b).depth
theorem dpGs_reads (I : Inv X pins σ H s) : ∀ {xs : List V} {ds : List PyData} {us : List Value}, Paired (DpG X.K H) xs ds → Vals xs us → ∃ as, ReadsAll s.heap us ds as ∧ sysModules ∉ as
  | _, _, _, .nil, r => by cases r; exact ⟨[], .nil, by simp⟩
  | _, _, _, .cons a b, r => by
    cases r with
    | cons r1 r2 =>
      obtain ⟨as, rd, h1⟩ := a.reads I r1
      obtain ⟨bs, rd2, h2⟩ := dpGs_reads I b r2
      exact ⟨_, .cons rd rd2, fun z => (List.mem_append.mp z).elim h1 h2⟩
theorem dpGs_depth {K : PySem.W.Frag} : ∀ {xs : List V} {ds : List PyData}, Paired (DpG K H) xs ds → PyData.depthAll ds ≤ 55
  | _, _, .nil => by simp [PyData.depthAll]
  | _, _, .cons a b => by
    have q := dpGs_depth b
    have := a.depth
    simp only [PyData.depthAll]
    omega
theorem DpF.reads (I : Inv X pins σ H s) {v : V} {u : Value} {d : PyData} (a : DpF X.K H v d) (r : RelV v u) : ∃ as, Reads s.heap u d as ∧ (d.hasDict = true → sysModules ∉ as) := by
  cases a with
  | e a => exact a.reads I r
  | tp hT b =>
    cases (show u = Value.ref _ from r)
    obtain ⟨its, rv, ⟨o, ho, hc, n, hda⟩, hz⟩ := I.tuple hT
    obtain ⟨as, rd, hs⟩ := dpGs_reads I b rv
    exact ⟨_, .tuple ho hc hda (by simpa using rd), fun _ => hs⟩
theorem DpF.depth {K : PySem.W.Frag} {v : V} {d : PyData} (a : DpF K H v d) : d.depth ≤ 56 := by
  cases a with
  | e a => have := a.depth; omega
  | tp _ b =>
    have := dpGs_depth b
    simp only [PyData.depth]
    omega
end
section
variable {X : Cx}
end
end Y

namespace Y
open PySem PySem.Spec PyProof.Rows L2
section
variable {X : Cx}
end
end Y

namespace Y
open PySem PySem.Spec PyProof.Rows L2
def splC (c : Nat) : List Nat → List (List Nat)
  | [] => [[]]
  | x :: r => if x = c then [] :: splC c r else match splC c r with
    | [] => [[x]]
    | y :: ys => (x :: y) :: ys
theorem splC_ne (c : Nat) : ∀ s : List Nat, splC c s ≠ []
  | [] => by simp [splC]
  | x :: r => by
    rw [splC]
    split
    · simp
    · split <;> simp
theorem pre_one (c x : Nat) (r : List Nat) : TL.pre [c] (x :: r) = decide (x = c) := by
  show (([x] : List Nat) == [c]) = decide (x = c)
  by_cases h : x = c
  · rw [h, decide_eq_true rfl]; exact beq_self_eq_true _
  · rw [decide_eq_false h]
    exact beq_eq_false_iff_ne.mpr fun e => h (List.cons.inj e).1
theorem spl_C (c : Nat) : ∀ (s acc : List Nat), TL.spl [c] 0 acc s = (acc ++ (splC c s).headD []) :: (splC c s).tail
  | [], acc => by rw [TL.spl_nil]; simp [splC]
  | x :: r, acc => by
    rw [TL.spl, pre_one, splC]
    by_cases h : x = c
    · rw [if_pos (by simpa using h), if_pos h]
      have := spl_C c r []
      simp only [List.length_singleton, Nat.sub_self]
      rw [this]
      have ne := splC_ne c r
      cases e : splC c r with
      | nil => exact absurd e ne
      | cons y ys => simp
    · rw [if_neg (by simpa using h), if_neg h, spl_C c r (acc ++ [x])]
      have ne := splC_ne c r
      cases e : splC c r with
      | nil => exact absurd e ne
      | cons y ys => simp
theorem split_C (c : Nat) (hc : c < 256) (s : List Nat) : Txt.split (S s) (S [c]) = (splC c s).map S := by
  rw [SX.split_S (by simp) (by simpa using hc), spl_C]
  have ne := splC_ne c s
  cases e : splC c s with
  | nil => exact absurd e ne
  | cons y ys => rfl
def splitE : LM := fun v vs h P => match v, vs with
  | .str s, [.str [c]] => c < 256 ∧ s.length + 2 ≤ sizeLine ∧ P (.ref h.length) (h ++ [.lst ((splC c s).map EV.str)])
  | _, _ => False
def intOfS : LC := fun vs h P => (∃ w : List Nat, vs = [.str w] ∧ w.all (fun c => decide (48 ≤ c) && decide (c ≤ 57)) = true ∧ w ≠ [] ∧ w.length ≤ 640 ∧ P (.int (NumText.digitsVal w : Nat)) h) ∨ intOf vs h P
theorem lc_intS {X : Cx} : LCallR X (.type "int") intOfS := by
  obtain ⟨r, h1, h2⟩ := lc_int (X := X)
  refine ⟨_, CallR.or call_int_str h1, ?_⟩
  intro m h H vs xs P Q R r0 q k
  rcases q with ⟨w, rfl, hd, hne, hl, q⟩ | q
  · obtain ⟨v, rfl, rv⟩ := r0.one_inv
    rw [RelE] at rv
    subst rv
    exact .inl ⟨S w, _, rfl, SX.int_S hd hne (by omega), by rw [S_len]; exact hl, k.same R q (by rw [RelE])⟩
  · exact .inr (h2 m h H vs xs P Q R r0 q k)
theorem lm_split {K : PySem.W.Frag} : LMl K "str" (fun x xs H Q => ∃ a b, x = .str a ∧ xs = [.str b] ∧ (b.length == 0) = false ∧ a.length + 2 ≤ sizeLine ∧ rNewStrs (Txt.split a b) H Q) splitE := by
  intro m h H v x vs xs P Q R rx rv q k
  unfold splitE at q
  split at q
  · rename_i s c
    obtain ⟨y, rfl, ry⟩ := rv.one_inv
    rw [RelE] at rx ry
    subst rx ry
    obtain ⟨hc, hl, q⟩ := q
    refine ⟨_, _, rfl, rfl, by rw [S_len]; rfl, by rw [S_len]; exact hl, ?_⟩
    intro p hp
    rw [split_C c hc]
    refine k.lst R q ?_ hp
    generalize splC c s = l
    induction l with
    | nil => exact .nil
    | cons y l ih => exact .cons (by rw [RelE]) ih
  · exact q.elim
end Y

namespace Y
open PySem PySem.Spec PyProof.Rows L2

def BagAt (h : EH) (b : Nat) : Prop := ∃ (c : Nat) (x y z : Int) (ns : List Int), h[b]? = some (.lst [.int x, .int y, .int z, .ref c]) ∧ h[c]? = some (.lst (ns.map EV.int)) ∧ c < b ∧ 0 ≤ x ∧ 0 ≤ y ∧ 0 ≤ z ∧ ns.length ≤ 63 ∧ ∀ n ∈ ns, 0 ≤ n
def is1 (b : Nat) : Nat → Prop := fun r => r = b
def spBag : LSp := fun evs h Q => ∃ ns : List Int, evs = [.ref 0] ∧ h = [.frz (ns.map EV.int)] ∧ ns.length ≤ 63 ∧ ∀ b h', BagAt h' b → Q (.ref b) h'
def spTake : LSp := fun evs h Q => ∃ (b : Nat) (many : Int), evs = [.ref b, .int many] ∧ 0 < many ∧ many < 2 ^ 60 ∧ BagAt h b ∧ ∀ d h', 0 ≤ d → d < many → Keep (is1 b) h h' → BagAt h' b → Q (.int d) h'
def spOne : LSp := fun evs h Q => ∃ (b l : Nat) (xs : List EV), evs = [.ref b, .ref l] ∧ h[l]? = some (.lst xs) ∧ xs ≠ [] ∧ xs.length ≤ sizeLine ∧ l ≠ b ∧ BagAt h b ∧ ∀ x h', x ∈ xs → Keep (is1 b) h h' → BagAt h' b → Q x h'
def spMixed : LSp := fun evs h Q => ∃ (b l : Nat) (xs : List EV), evs = [.ref b, .ref l] ∧ h[l]? = some (.lst xs) ∧ xs.length ≤ 1000000 ∧ l ≠ b ∧ BagAt h b ∧ ∀ r ys h', ys.Perm xs → Keep (is1 b) h h' → h.length ≤ r → h'[r]? = some (.lst ys) → BagAt h' b → Q (.ref r) h'
def spAlike : LSp := fun evs h Q => ∃ (v w : EV) (d : PyData), evs = [v, w] ∧ Dat h 60 v d ∧ Dat h 60 w d ∧ d.showable = true ∧ d.shown.length ≤ sizeLine ∧ Q (.bl true) h
def rdBag : LS :=
    lRet (lLst (lCons (lC (.int 0)) (lCons (lC (.int 1234567891)) (lCons (lC (.int 0)) (lCons (lLc (lIt (lSl (lVar 0) (lPart none) (lPart (some (lC (.int 63)))))) (.nm 1) (lYes) (lCB absE (lCons (lVar 1) (lNil))) [1]) (lNil))))))
def rdTake : LS :=
    lSeq (lIfS (lB (lOp (eqE false) (lOp ixA (lVar 0) (lC (.int 0))) (lC (.int 0))))
      (lSeq (lSet (lOp ixA (lOp addE (lSl (lOp ixA (lVar 0) (lC (.int 3))) (lPart (some (lOp ixA (lVar 0) (lC (.int 2))))) (lPart none)) (lLst (lCons (lC (.int 0)) (lNil)))) (lC (.int 0))) 2) <|
    lSeq (lAugS (fun i j => i + j) (lVar 0) (lC (.int 2)) (lC (.int 1))) <|
    lSeq (lSetA (lVar 0) (lC (.int 0)) (lOp mulE (lVar 2) (lCB intOf (lCons (lOp geE (lVar 2) (lOp powE (lC (.int 10)) (lC (.int 18)))) (lNil))))) <|
    lSeq (lSet (lOp addE (lOp addE (lOp mulE (lOp ixA (lVar 0) (lC (.int 1))) (lC (.int 48271))) (lOp modE (lCB intOf (lCons (lVar 2) (lNil))) (lC (.int 2147483647)))) (lOp mulE (lC (.int 7919)) (lOp ixA (lVar 0) (lC (.int 2))))) 3) <|
    lSetA (lVar 0) (lC (.int 1)) (lOp modE (lCB intOf (lCons (lVar 3) (lNil))) (lC (.int 2147483647))))
      (lNext)) <|
    lSeq (lIfS (lB (lOp gtE (lOp ixA (lVar 0) (lC (.int 0))) (lC (.int 0))))
      (lSeq (lSet (lOp modE (lCB intOf (lCons (lOp ixA (lVar 0) (lC (.int 0))) (lNil))) (lVar 1)) 4) <|
    lSeq (lSetA (lVar 0) (lC (.int 0)) (lOp fdivE (lCB intOf (lCons (lOp ixA (lVar 0) (lC (.int 0))) (lNil))) (lVar 1))) <|
    lRet (lVar 4))
      (lNext)) <|
    lSeq (lSet (lOp modE (lCB intOf (lCons (lOp mulE (lOp addE (lOp ixA (lVar 0) (lC (.int 1))) (lC (.int 1))) (lC (.int 39373))) (lNil))) (lC (.int 1000000007))) 5) <|
    lSeq (lSet (lOp modE (lCB intOf (lCons (lOp mulE (lOp modE (lCB intOf (lCons (lOp mulE (lVar 5) (lVar 5)) (lNil))) (lC (.int 998244353))) (lC (.int 30011))) (lNil))) (lC (.int 998244353))) 6) <|
    lRet (lOp modE (lCB intOf (lCons (lOp fdivE (lVar 6) (lC (.int 7))) (lNil))) (lVar 1))
def rdOne : LS :=
    lRet (lOp ixA (lVar 1) (lCall spTake (lCons (lVar 0) (lCons (lCB lenE (lCons (lVar 1) (lNil))) (lNil)))))
def rdMixed : LS :=
    lSeq (lSet (lLst (lNil)) 2) <|
    lSeq (lFor (lIt (lVar 1)) (.nm 3)
      (lDrop (lBM "list" insertE (lVar 2) (lCons (lCall spTake (lCons (lVar 0) (lCons (lOp addE (lCB lenE (lCons (lVar 2) (lNil))) (lC (.int 1))) (lNil)))) (lCons (lVar 3) (lNil)))))) <|
    lRet (lVar 2)
def rdAlike : LS :=
    lRet (lAndV (lOp (eqE false) (lVar 0) (lVar 1)) (lOp (eqE false) (lCB reprE (lCons (lVar 0) (lNil))) (lCB reprE (lCons (lVar 1) (lNil)))))
theorem pureBag (evs : List EV) (h : EH) (Q : EK) (q : spBag evs h Q) : rdBag (endsOf Q) (startE ["_law_script", "_law_cell"] evs) h := by
  obtain ⟨ns, rfl, rfl, hl, q⟩ := q
  show rdBag (endsOf Q) [some (.ref 0), none] [.frz (ns.map EV.int)]
  simp only [rdBag, lSeq, lSet, lRet, lRetN, lDrop, lIfS, lOp, lVar, lC, lB, lT, lAnd, lOr, lNot, lIf, lAndV, lOrV, lNotV, lNil, lCons, lTup, lLst, lCB, lBM, lSl, lPart, lNext, lFor, lIt, lRng1, lRng2, lAsg, lPar, lSetI, lSetA, lAugS, lLc, lZip, lNeg, lCall, lChain, List.getElem?_cons_zero, List.getElem?_cons_succ, List.set_cons_zero, List.set_cons_succ, truE, wipeE, intP, intE, slE]
  have ec : cut (ns.map EV.int) none (some 63) = ns.map EV.int := by
    rw [show (63 : Int) = ((63 : Nat) : Int) from rfl, cut_to, List.take_of_length_le (by simpa using hl)]
  rw [ec]
  simp only [List.length_cons, List.length_nil, List.getElem?_append_right, Nat.le_refl, Nat.sub_self, List.getElem?_cons_zero, Nat.zero_add]
  refine lc_map (fun v => match v with
    | .int i => EV.int (i.natAbs : Int)
    | _ => .non) _ ?_ (fun acc => by simp) (fun x hx acc ky hy => ?_) ?_
  · rw [List.length_map, sizeL]; omega
  · obtain ⟨c, hc, rfl⟩ := List.mem_map.mp hx
    simp only [lBind, Pat.bind, lSeq, lSet, lRet, lRetN, lDrop, lIfS, lOp, lVar, lC, lB, lT, lAnd, lOr, lNot, lIf, lAndV, lOrV, lNotV, lNil, lCons, lTup, lLst, lCB, lBM, lSl, lPart, lNext, lFor, lIt, lRng1, lRng2, lAsg, lPar, lSetI, lSetA, lAugS, lLc, lZip, lNeg, lCall, lChain, List.getElem?_cons_zero, List.getElem?_cons_succ, List.set_cons_zero, List.set_cons_succ, truE, wipeE, intP, intE, absE]
    exact hy
  · rw [sizeL]
    refine ⟨by decide, ?_⟩
    refine q _ _ ⟨2, 0, 1234567891, 0, ns.map fun i => (i.natAbs : Int), ?_, ?_, ?_, by decide, by decide, by decide, ?_, ?_⟩
    · simp
    · simp
    · simp
    · simpa using hl
    · intro n hn
      obtain ⟨i, _, rfl⟩ := List.mem_map.mp hn
      omega
theorem lenBag (evs : List EV) (h : EH) (Q : EK) (q : spBag evs h Q) : evs.length = ["_law_script"].length := by
  obtain ⟨_, rfl, _⟩ := q; rfl
theorem take_end {b : Nat} {many : Int} {x y z : Int} {c : Nat} {ns : List Int} {Q : EK} {h h0 : EH} (hm : 0 < many) (hm2 : many < 2 ^ 60) (k0 : Keep (is1 b) h0 h)
    (e1 : h[b]? = some (.lst [.int x, .int y, .int z, .ref c])) (e2 : h[c]? = some (.lst (ns.map EV.int))) (hcb : c < b) (hx : 0 ≤ x) (hy : 0 ≤ y) (hz : 0 ≤ z) (hnl : ns.length ≤ 63) (hn : ∀ n ∈ ns, 0 ≤ n)
    (q : ∀ d h', 0 ≤ d → d < many → Keep (is1 b) h0 h' → BagAt h' b → Q (.int d) h') {env : En} (he : env.length = 7) (h0 : env[0]? = some (some (.ref b))) (h1 : env[1]? = some (some (.int many))) :
    (lSeq (lIfS (lB (lOp gtE (lOp ixA (lVar 0) (lC (.int 0))) (lC (.int 0))))
      (lSeq (lSet (lOp modE (lCB intOf (lCons (lOp ixA (lVar 0) (lC (.int 0))) (lNil))) (lVar 1)) 4) <|
    lSeq (lSetA (lVar 0) (lC (.int 0)) (lOp fdivE (lCB intOf (lCons (lOp ixA (lVar 0) (lC (.int 0))) (lNil))) (lVar 1))) <|
    lRet (lVar 4))
      (lNext)) <|
    lSeq (lSet (lOp modE (lCB intOf (lCons (lOp mulE (lOp addE (lOp ixA (lVar 0) (lC (.int 1))) (lC (.int 1))) (lC (.int 39373))) (lNil))) (lC (.int 1000000007))) 5) <|
    lSeq (lSet (lOp modE (lCB intOf (lCons (lOp mulE (lOp modE (lCB intOf (lCons (lOp mulE (lVar 5) (lVar 5)) (lNil))) (lC (.int 998244353))) (lC (.int 30011))) (lNil))) (lC (.int 998244353))) 6) <|
    lRet (lOp modE (lCB intOf (lCons (lOp fdivE (lVar 6) (lC (.int 7))) (lNil))) (lVar 1))) (endsOf Q) env h := by
  obtain ⟨g0, g1, g2, g3, g4, g5, g6, rfl⟩ : ∃ a b c d e f g, env = [a, b, c, d, e, f, g] := by
    match env, he with
    | [a, b, c, d, e, f, g], _ => exact ⟨a, b, c, d, e, f, g, rfl⟩
  simp only [List.getElem?_cons_zero, List.getElem?_cons_succ, Option.some.injEq] at h0 h1
  subst h0 h1
  simp only [lSeq, lSet, lRet, lRetN, lDrop, lIfS, lOp, lVar, lC, lB, lT, lAnd, lOr, lNot, lIf, lAndV, lOrV, lNotV, lNil, lCons, lTup, lLst, lCB, lBM, lSl, lPart, lNext, lFor, lIt, lRng1, lRng2, lAsg, lPar, lSetI, lSetA, lAugS, lLc, lZip, lNeg, lCall, lChain, List.getElem?_cons_zero, List.getElem?_cons_succ, List.set_cons_zero, List.set_cons_succ, truE, wipeE, intP, intE]
  refine ia_l e1 at0 ?_
  show if decide (0 < x) = true then _ else _
  split
  · refine ia_l e1 at0 ?_
    refine int_i ?_
    refine mod_i hm ?_
    refine ia_l e1 at0 ?_
    refine int_i ?_
    refine div_i hm (by omega) ?_
    refine sa_l e1 (k := 0) rfl ?_
    refine q _ _ (Int.emod_nonneg _ (by omega)) (Int.emod_lt_of_pos _ hm) (k0.trans (Keep.set rfl)) ?_
    exact ⟨c, x / many, y, z, ns, set_at e1, set_off e2 (Nat.ne_of_lt hcb), hcb, Int.ediv_nonneg hx (by omega), hy, hz, hnl, hn⟩
  · refine ia_l e1 at1 ?_
    refine add_i ?_
    refine mul_i (mulOk_r (by decide)) ?_
    refine int_i ?_
    refine mod_i (by decide) ?_
    generalize hE : (y + 1) * 39373 % 1000000007 = E
    have b1 : 0 ≤ E := by rw [← hE]; exact Int.emod_nonneg _ (by decide)
    have b2 : E < 1000000007 := by rw [← hE]; exact Int.emod_lt_of_pos _ (by decide)
    refine mul_i (mulOk_r (by omega)) ?_
    refine int_i ?_
    refine mod_i (by decide) ?_
    refine mul_i (mulOk_r (by decide)) ?_
    refine int_i ?_
    refine mod_i (by decide) ?_
    refine div_i (by decide) (by decide) ?_
    refine int_i ?_
    refine mod_i hm ?_
    exact q _ _ (Int.emod_nonneg _ (by omega)) (Int.emod_lt_of_pos _ hm) k0 ⟨c, x, y, z, ns, e1, e2, hcb, hx, hy, hz, hnl, hn⟩
theorem pureTake (evs : List EV) (h : EH) (Q : EK) (q : spTake evs h Q) : rdTake (endsOf Q) (startE ["_law_bag_here", "_law_many", "_law_cell", "_law_mixed_here", "_law_drawn", "_law_early", "_law_second"] evs) h := by
  obtain ⟨b, many, rfl, hm, hm2, ⟨c, x, y, z, ns, e1, e2, hcb, hx, hy, hz, hnl, hn⟩, q⟩ := q
  show rdTake (endsOf Q) [some (.ref b), some (.int many), none, none, none, none, none] h
  unfold rdTake
  rw [lSeq, lIfS]
  simp only [lB, lOp, lVar, lC, List.getElem?_cons_zero, List.getElem?_cons_succ]
  refine ia_l e1 at0 ?_
  refine eq_i ?_
  dsimp only
  split
  · simp only [lSeq, lSet, lAugS, lSetA, lOp, lVar, lC, lSl, lPart, lLst, lCons, lNil, lCB, List.getElem?_cons_zero, List.getElem?_cons_succ, List.set_cons_zero, List.set_cons_succ]
    refine ia_l e1 at3 ?_
    refine ia_l e1 at2 ?_
    refine sl_l e2 ?_
    refine ⟨by rw [sizeL]; decide, ?_⟩
    obtain ⟨zn, rfl⟩ := Int.eq_ofNat_of_zero_le hz
    rw [cut_from]
    have g1 : (h ++ [EO.lst ((ns.map EV.int).drop zn)] ++ [.lst [.int 0]])[h.length]? = some (.lst ((ns.map EV.int).drop zn)) := by simp
    have g2 : (h ++ [EO.lst ((ns.map EV.int).drop zn)] ++ [.lst [.int 0]])[(h ++ [EO.lst ((ns.map EV.int).drop zn)]).length]? = some (.lst [.int 0]) := new_at
    refine add_l g1 g2 ?_ ?_
    · simp only [List.length_drop, List.length_map, List.length_singleton]
      rw [sizeL]; omega
    obtain ⟨v, vs, hv0, hv⟩ : ∃ (v : Int) (vs : List EV), 0 ≤ v ∧ (ns.map EV.int).drop zn ++ [.int 0] = .int v :: vs := by
      cases hd : ns.drop zn with
      | nil => exact ⟨0, [], by decide, by rw [← List.map_drop, hd]; rfl⟩
      | cons n r => exact ⟨n, r.map EV.int ++ [.int 0], hn n (List.mem_of_mem_drop (i := zn) (by rw [hd]; exact List.mem_cons_self)), by rw [← List.map_drop, hd]; rfl⟩
    rw [hv]
    refine ia_l new_at at0 ?_
    generalize hg : h ++ [EO.lst ((ns.map EV.int).drop zn)] ++ [.lst [.int 0]] ++ [.lst (.int v :: vs)] = hA
    have kA : Keep (is1 b) h hA := by
      rw [← hg, List.append_assoc, List.append_assoc]; exact Keep.app _
    have a1 : hA[b]? = some (.lst [.int x, .int y, .int zn, .ref c]) := by
      rw [← hg]; exact app_at (app_at (app_at e1 _) _) _
    have a2 : hA[c]? = some (.lst (ns.map EV.int)) := kA.2 _ _ e2 (Nat.ne_of_lt hcb)
    clear hg g1 g2
    refine get_l a1 (by decide) rfl ?_
    dsimp only
    refine set_l a1 (k := 2) rfl ?_
    simp only [List.set_cons_zero, List.set_cons_succ]
    have b1 := set_at (o := EO.lst ([.int x, .int y, .int (zn + 1), .ref c] : List EV)) a1
    have b2 := set_off (o := EO.lst ([.int x, .int y, .int (zn + 1), .ref c] : List EV)) a2 (Nat.ne_of_lt hcb)
    have kB := kA.trans (Keep.set (o := EO.lst ([.int x, .int y, .int (zn + 1), .ref c] : List EV)) (show is1 b b from rfl))
    generalize hA.set b (.lst ([.int x, .int y, .int (zn + 1), .ref c] : List EV)) = hB at b1 b2 kB ⊢
    refine pow_i (by unfold CPow; decide) ?_
    refine ge_i ?_
    refine int_b ?_
    refine mul_i (mulOk_r (by split <;> decide)) ?_
    have hx' : 0 ≤ v * (if decide ((10 : Int) ^ Int.toNat 18 ≤ v) = true then 1 else 0) := by
      split <;> omega
    generalize v * (if decide ((10 : Int) ^ Int.toNat 18 ≤ v) = true then (1 : Int) else 0) = x' at hx' ⊢
    refine sa_l b1 (k := 0) rfl ?_
    simp only [List.set_cons_zero, List.set_cons_succ]
    have c1 := set_at (o := EO.lst ([.int x', .int y, .int (zn + 1), .ref c] : List EV)) b1
    have c2 := set_off (o := EO.lst ([.int x', .int y, .int (zn + 1), .ref c] : List EV)) b2 (Nat.ne_of_lt hcb)
    have kC := kB.trans (Keep.set (o := EO.lst ([.int x', .int y, .int (zn + 1), .ref c] : List EV)) (show is1 b b from rfl))
    generalize hB.set b (.lst ([.int x', .int y, .int (zn + 1), .ref c] : List EV)) = hC at c1 c2 kC ⊢
    refine ia_l c1 at1 ?_
    refine mul_i (mulOk_r (by decide)) ?_
    refine int_i ?_
    refine mod_i (by decide) ?_
    refine add_i ?_
    refine ia_l c1 at2 ?_
    refine mul_i (mulOk_l (by decide)) ?_
    refine add_i ?_
    refine int_i ?_
    refine mod_i (by decide) ?_
    have hy' : 0 ≤ (y * 48271 + v % 2147483647 + 7919 * ((zn : Int) + 1)) % 2147483647 := Int.emod_nonneg _ (by decide)
    generalize (y * 48271 + v % 2147483647 + 7919 * ((zn : Int) + 1)) % 2147483647 = y' at hy' ⊢
    refine sa_l c1 (k := 1) rfl ?_
    simp only [List.set_cons_zero, List.set_cons_succ]
    have d1 := set_at (o := EO.lst ([.int x', .int y', .int (zn + 1), .ref c] : List EV)) c1
    have d2 := set_off (o := EO.lst ([.int x', .int y', .int (zn + 1), .ref c] : List EV)) c2 (Nat.ne_of_lt hcb)
    have kD := kC.trans (Keep.set (o := EO.lst ([.int x', .int y', .int (zn + 1), .ref c] : List EV)) (show is1 b b from rfl))
    exact take_end (env := [some (.ref b), some (.int many), some (.int v), some _, none, none, none]) hm hm2 kD d1 d2 hcb hx' hy' (by omega) hnl hn q rfl rfl rfl
  · exact take_end (env := [some (.ref b), some (.int many), none, none, none, none, none]) hm hm2 .refl e1 e2 hcb hx hy hz hnl hn q rfl rfl rfl
theorem lenTake (evs : List EV) (h : EH) (Q : EK) (q : spTake evs h Q) : evs.length = ["_law_bag_here", "_law_many"].length := by
  obtain ⟨_, _, rfl, _⟩ := q; rfl
theorem Keep.other {b l : Nat} {h h' : EH} {o : EO} (k : Keep (is1 b) h h') (e : h[l]? = some o) (n : l ≠ b) : h'[l]? = some o := k.2 _ _ e n
theorem pureOne (evs : List EV) (h : EH) (Q : EK) (q : spOne evs h Q) : rdOne (endsOf Q) (startE ["_law_bag_here", "_law_some"] evs) h := by
  obtain ⟨b, l, xs, rfl, e, hne, hl, hlb, B, q⟩ := q
  show rdOne (endsOf Q) [some (.ref b), some (.ref l)] h
  simp only [rdOne, lSeq, lSet, lRet, lRetN, lDrop, lIfS, lOp, lVar, lC, lB, lT, lAnd, lOr, lNot, lIf, lAndV, lOrV, lNotV, lNil, lCons, lTup, lLst, lCB, lBM, lSl, lPart, lNext, lFor, lIt, lRng1, lRng2, lAsg, lPar, lSetI, lSetA, lAugS, lLc, lZip, lNeg, lCall, lChain, List.getElem?_cons_zero, List.getElem?_cons_succ, List.set_cons_zero, List.set_cons_succ, truE, wipeE, intP, intE]
  refine len_l e ?_
  have hp : 0 < xs.length := List.length_pos_iff.mpr hne
  refine ⟨b, xs.length, rfl, by omega, by rw [sizeL] at hl; omega, B, fun d h1 d0 d1 k1 B1 => ?_⟩
  obtain ⟨n, rfl⟩ := Int.eq_ofNat_of_zero_le d0
  have hn : n < xs.length := by omega
  refine ia_l (k1.other e hlb) (L2.atI_nat (List.getElem?_eq_getElem hn)) ?_
  exact q _ _ (List.getElem_mem hn) k1 B1
theorem lenOne (evs : List EV) (h : EH) (Q : EK) (q : spOne evs h Q) : evs.length = ["_law_bag_here", "_law_some"].length := by
  obtain ⟨_, _, _, rfl, _⟩ := q; rfl
theorem BagAt.keep {h h' : EH} {b : Nat} (B : BagAt h b) (k : Keep no1 h h') : BagAt h' b := by
  obtain ⟨c, x, y, z, ns, e1, e2, r⟩ := B
  exact ⟨c, x, y, z, ns, k.at e1, k.at e2, r⟩
theorem BagAt.lt {h : EH} {b : Nat} (B : BagAt h b) : b < h.length := by
  obtain ⟨c, x, y, z, ns, e1, _⟩ := B
  exact lt_of_at e1
theorem BagAt.set {h : EH} {b r : Nat} {o : EO} (B : BagAt h b) (n : b < r) : BagAt (h.set r o) b := by
  obtain ⟨c, x, y, z, ns, e1, e2, l, r'⟩ := B
  exact ⟨c, x, y, z, ns, set_off e1 (Nat.ne_of_lt n), set_off e2 (Nat.ne_of_lt (Nat.lt_trans l n)), l, r'⟩
theorem pureMixed (evs : List EV) (h : EH) (Q : EK) (q : spMixed evs h Q) : rdMixed (endsOf Q) (startE ["_law_bag_here", "_law_things", "_law_found", "_law_thing"] evs) h := by
  obtain ⟨b, l, xs, rfl, e, hl, hlb, B, q⟩ := q
  show rdMixed (endsOf Q) [some (.ref b), some (.ref l), none, none] h
  simp only [rdMixed, lSeq, lSet, lRet, lRetN, lDrop, lIfS, lOp, lVar, lC, lB, lT, lAnd, lOr, lNot, lIf, lAndV, lOrV, lNotV, lNil, lCons, lTup, lLst, lCB, lBM, lSl, lPart, lNext, lFor, lIt, lRng1, lRng2, lAsg, lPar, lSetI, lSetA, lAugS, lLc, lZip, lNeg, lCall, lChain, List.getElem?_cons_zero, List.getElem?_cons_succ, List.set_cons_zero, List.set_cons_succ, truE, wipeE, intP, intE, List.length_nil]
  refine ⟨by rw [sizeL]; decide, ?_⟩
  have hlt := lt_of_at e
  have hbt := B.lt
  rw [app_at e]
  refine loop_ind (fun left env h' => ∃ (done acc : List EV) (x : Option EV), xs = done ++ left ∧ acc.Perm done ∧ env = [some (.ref b), some (.ref l), some (.ref h.length), x] ∧ Keep (is1 b) h h' ∧ h'[h.length]? = some (.lst acc) ∧ BagAt h' b) ?_ ?_ _ _ _ ⟨[], [], none, rfl, .refl _, rfl, Keep.app _, new_at, B.keep (Keep.app _)⟩
  · rintro env h' ⟨done, acc, x, rfl, p, rfl, k, e', B'⟩
    refine ⟨k.other e hlb, ?_⟩
    simp only [lSeq, lSet, lRet, lRetN, lDrop, lIfS, lOp, lVar, lC, lB, lT, lAnd, lOr, lNot, lIf, lAndV, lOrV, lNotV, lNil, lCons, lTup, lLst, lCB, lBM, lSl, lPart, lNext, lFor, lIt, lRng1, lRng2, lAsg, lPar, lSetI, lSetA, lAugS, lLc, lZip, lNeg, lCall, lChain, List.getElem?_cons_zero, List.getElem?_cons_succ, List.set_cons_zero, List.set_cons_succ, truE, wipeE, intP, intE]
    exact q _ _ _ (by simpa using p) k (Nat.le_refl _) e' B'
  · rintro x left env h' kk ⟨done, acc, x0, rfl, p, rfl, k, e', B'⟩ hk
    refine ⟨k.other e hlb, ?_⟩
    simp only [lBind, Pat.bind, lSeq, lSet, lRet, lRetN, lDrop, lIfS, lOp, lVar, lC, lB, lT, lAnd, lOr, lNot, lIf, lAndV, lOrV, lNotV, lNil, lCons, lTup, lLst, lCB, lBM, lSl, lPart, lNext, lFor, lIt, lRng1, lRng2, lAsg, lPar, lSetI, lSetA, lAugS, lLc, lZip, lNeg, lCall, lChain, List.getElem?_cons_zero, List.getElem?_cons_succ, List.set_cons_zero, List.set_cons_succ, truE, wipeE, intP, intE, isTy, e']
    refine ⟨trivial, ?_⟩
    refine len_l e' ?_
    refine add_i ?_
    have hz : acc.length = done.length := p.length_eq
    simp only [List.length_append, List.length_cons] at hl
    refine ⟨b, acc.length + 1, rfl, by omega, by omega, B', fun d h1 d0 d1 k1 B1 => ?_⟩
    have hne : h.length ≠ b := by omega
    have e1 := k1.other e' hne
    refine ins_e e1 (by rw [sizeL]; omega) d0 (by omega) ?_
    refine hk _ _ ⟨done ++ [x], _, some x, by simp, ?_, rfl, ?_, set_at e1, ?_⟩
    · have p1 : (List.take d.toNat acc ++ [x] ++ List.drop d.toNat acc).Perm (x :: acc) := by
        have e3 : List.take d.toNat acc ++ [x] ++ List.drop d.toNat acc = List.take d.toNat acc ++ x :: List.drop d.toNat acc := by simp
        rw [e3]
        exact List.perm_middle.trans (by rw [List.take_append_drop])
      refine p1.trans ((p.cons x).trans ?_)
      exact (List.perm_append_singleton x done).symm
    · exact (k.trans k1).fresh (Nat.le_refl _)
    · exact B1.set hbt
theorem lenMixed (evs : List EV) (h : EH) (Q : EK) (q : spMixed evs h Q) : evs.length = ["_law_bag_here", "_law_things"].length := by
  obtain ⟨_, _, _, rfl, _⟩ := q; rfl
theorem pureAlike (evs : List EV) (h : EH) (Q : EK) (q : spAlike evs h Q) : rdAlike (endsOf Q) (startE ["_law_found", "_law_due"] evs) h := by
  obtain ⟨v, w, d, rfl, a', b', sd, zd, q⟩ := q
  show rdAlike (endsOf Q) [some v, some w] h
  simp only [rdAlike, lSeq, lSet, lRet, lRetN, lDrop, lIfS, lOp, lVar, lC, lB, lT, lAnd, lOr, lNot, lIf, lAndV, lOrV, lNotV, lNil, lCons, lTup, lLst, lCB, lBM, lSl, lPart, lNext, lFor, lIt, lRng1, lRng2, lAsg, lPar, lSetI, lSetA, lAugS, lLc, lZip, lNeg, lCall, lChain, List.getElem?_cons_zero, List.getElem?_cons_succ, List.set_cons_zero, List.set_cons_succ, truE, wipeE, intP, intE]
  refine eqE_same a' b' ?_
  simp only [if_true]
  refine ⟨d, a', sd, zd, ?_⟩
  refine ⟨d, b', sd, zd, ?_⟩
  refine eq_s ?_
  simpa using q
theorem lenAlike (evs : List EV) (h : EH) (Q : EK) (q : spAlike evs h Q) : evs.length = ["_law_found", "_law_due"].length := by
  obtain ⟨_, _, _, rfl, _⟩ := q; rfl
end Y

namespace Y
open PySem PySem.Spec PyProof.Rows L2

def rdAlpha : LS :=
    lRet (lSl (lCall spMixed (lCons (lVar 0) (lCons (lLst (lCons (lC (.int 0)) (lCons (lC (.int 1)) (lCons (lC (.int 2)) (lCons (lC (.int 3)) (lCons (lC (.int 48)) (lCons (lC (.int 999999999)) (lCons (lOp powE (lC (.int 10)) (lC (.int 9))) (lNil))))))))) (lNil)))) (lPart none) (lPart (some (lCall spOne (lCons (lVar 0) (lCons (lLst (lCons (lC (.int 2)) (lCons (lC (.int 3)) (lCons (lC (.int 2)) (lCons (lC (.int 1)) (lCons (lC (.int 4)) (lNil))))))) (lNil)))))))
def rdFull : LS :=
    lRet (lCB tupleOf (lCons (lLc (lRng1 (lCons (lVar 2) (lNil))) (.nm 3) (lYes) (lCall spOne (lCons (lVar 0) (lCons (lVar 1) (lNil)))) [3]) (lNil)))
def spAlpha : LSp := fun evs h Q => ∃ b : Nat, evs = [.ref b] ∧ BagAt h b ∧ ∀ (r : Nat) (ns : List Int) (h' : EH), ns.Nodup → 0 < ns.length → ns.length ≤ 4 → (∀ n ∈ ns, 0 ≤ n ∧ n ≤ 1000000000) → Keep (is1 b) h h' → h.length ≤ r → h'[r]? = some (.lst (ns.map EV.int)) → BagAt h' b → Q (.ref r) h'
def spFull : LSp := fun evs h Q => ∃ (b l size : Nat) (ns : List Int), evs = [.ref b, .ref l, .int size] ∧ h[l]? = some (.lst (ns.map EV.int)) ∧ ns ≠ [] ∧ ns.length ≤ 1000 ∧ l ≠ b ∧ size ≤ 1000000 ∧ BagAt h b ∧
  ∀ (ms : List Int) (h' : EH), ms.length = size → (∀ m ∈ ms, m ∈ ns) → Keep (is1 b) h h' → BagAt h' b → Q (.tup (ms.map EV.int)) h'
theorem pureAlpha (evs : List EV) (h : EH) (Q : EK) (q : spAlpha evs h Q) : rdAlpha (endsOf Q) (startE ["_law_bag_here"] evs) h := by
  obtain ⟨b, rfl, B, q⟩ := q
  show rdAlpha (endsOf Q) [some (.ref b)] h
  simp only [rdAlpha, lSeq, lSet, lRet, lRetN, lDrop, lIfS, lOp, lVar, lC, lB, lT, lAnd, lOr, lNot, lIf, lAndV, lOrV, lNotV, lNil, lCons, lTup, lLst, lCB, lBM, lSl, lPart, lNext, lFor, lIt, lRng1, lRng2, lAsg, lPar, lSetI, lSetA, lAugS, lLc, lZip, lNeg, lCall, lChain, List.getElem?_cons_zero, List.getElem?_cons_succ, List.set_cons_zero, List.set_cons_succ, wipeE, intP, intE]
  refine ⟨by unfold CPow; decide, by simp [sizeL], ?_⟩
  have hb := B.lt
  have eM : [EV.int 0, EV.int 1, EV.int 2, EV.int 3, EV.int 48, EV.int 999999999, EV.int (10 ^ Int.toNat 9)] = ([0, 1, 2, 3, 48, 999999999, 1000000000] : List Int).map EV.int := by simp
  rw [eM]
  refine ⟨b, _, _, rfl, new_at, by simp, Nat.ne_of_gt hb, B.keep (Keep.app _), fun r ys h1 pm k1 g1 e1 B1 => ?_⟩
  refine ⟨by simp [sizeL], ?_⟩
  refine ⟨b, _, _, rfl, new_at, by simp, by simp [sizeL], Nat.ne_of_gt B1.lt, B1.keep (Keep.app _), fun x h2 hx k2 B2 => ?_⟩
  obtain ⟨zs, rfl, pz⟩ : ∃ zs : List Int, ys = zs.map EV.int ∧ zs.Perm [0, 1, 2, 3, 48, 999999999, 1000000000] := by
    have key : ∀ (ys : List EV) (l : List Int), ys.Perm (l.map EV.int) → ∃ zs : List Int, ys = zs.map EV.int ∧ zs.Perm l := by
      intro ys l hp
      have hs : ∀ y ∈ ys, ∃ i, y = EV.int i := fun y hy => by
        obtain ⟨i, _, rfl⟩ := List.mem_map.mp (hp.mem_iff.mp hy)
        exact ⟨i, rfl⟩
      let f : EV → Int := fun v => match v with
        | .int i => i
        | _ => 0
      refine ⟨ys.map f, ?_, ?_⟩
      · rw [List.map_map]
        conv => lhs; rw [← List.map_id ys]
        refine List.map_congr_left fun y hy => ?_
        obtain ⟨i, rfl⟩ := hs y hy
        rfl
      · have := hp.map f
        rw [List.map_map] at this
        rw [show l.map (f ∘ EV.int) = l from by
          conv => rhs; rw [← List.map_id l]
          rfl] at this
        exact this
    exact key _ _ pm
  obtain ⟨m, rfl, m1, m2⟩ : ∃ m : Nat, x = .int m ∧ 0 < m ∧ m ≤ 4 := by
    simp only [List.mem_cons, List.not_mem_nil, or_false] at hx
    rcases hx with rfl | rfl | rfl | rfl | rfl
    · exact ⟨2, rfl, by decide, by decide⟩
    · exact ⟨3, rfl, by decide, by decide⟩
    · exact ⟨2, rfl, by decide, by decide⟩
    · exact ⟨1, rfl, by decide, by decide⟩
    · exact ⟨4, rfl, by decide, by decide⟩
  simp only []
  have g2 : h.length + 1 ≤ r := by simpa using g1
  have e2 := k2.other (app_at e1 _) (show r ≠ b by omega)
  refine sl_l e2 ?_
  rw [cut_to, ← List.map_take]
  have lz : zs.length = 7 := by rw [pz.length_eq]; rfl
  have kk : Keep (is1 b) h h2 := ((Keep.app _).trans k1).trans ((Keep.app _).trans k2)
  refine q _ _ _ ?_ ?_ ?_ (fun n hn => ?_) (kk.trans (Keep.app _)) kk.1 new_at (B2.keep (Keep.app _))
  · exact ((pz.nodup_iff).mpr (by decide)).sublist (List.take_sublist _ _)
  · rw [List.length_take]; omega
  · rw [List.length_take]; omega
  · have := pz.mem_iff.mp (List.mem_of_mem_take hn)
    simp only [List.mem_cons, List.not_mem_nil, or_false] at this
    omega
theorem pureFull (evs : List EV) (h : EH) (Q : EK) (q : spFull evs h Q) : rdFull (endsOf Q) (startE ["_law_bag_here", "_law_letters", "_law_size", "_law_k"] evs) h := by
  obtain ⟨b, l, size, ns, rfl, e, ne, nl, hlb, hs, B, q⟩ := q
  show rdFull (endsOf Q) [some (.ref b), some (.ref l), some (.int size), none] h
  simp only [rdFull, lSeq, lSet, lRet, lRetN, lDrop, lIfS, lOp, lVar, lC, lB, lT, lAnd, lOr, lNot, lIf, lAndV, lOrV, lNotV, lNil, lCons, lTup, lLst, lCB, lBM, lSl, lPart, lNext, lFor, lIt, lRng1, lRng2, lAsg, lPar, lSetI, lSetA, lAugS, lLc, lZip, lNeg, lCall, lChain, List.getElem?_cons_zero, List.getElem?_cons_succ, List.set_cons_zero, List.set_cons_succ, wipeE, intP, intE]
  refine ⟨⟨by omega, by omega⟩, ?_⟩
  have hb := B.lt
  have hl := lt_of_at e
  refine lc_ind (fun left acc h' => ∃ ms : List Int, acc = ms.map EV.int ∧ (∀ m ∈ ms, m ∈ ns) ∧ ms.length + left.length = size ∧ Keep (is1 b) h h' ∧ BagAt h' b ∧ ∀ v ∈ left, ∃ i : Int, v = .int i) ?_ ?_ _ [] _ new_at ⟨[], rfl, fun c hc => by simp at hc, by simp [rangeL], Keep.app _, B.keep (Keep.app _), ?_⟩
  · rintro acc h4 ⟨ms, rfl, hm, hl4, k4, B4, _⟩ e4
    refine ⟨trivial, ?_⟩
    simp only [tupleOf, e4]
    exact q _ _ (by simpa using hl4) hm k4 B4
  · rintro x left acc h4 ky kn ⟨ms, rfl, hm, hl4, k4, B4, hle⟩ e4 hky _
    obtain ⟨xi, rfl⟩ := hle x (by simp)
    refine ⟨trivial, bind_nm ?_⟩
    simp only [lYes, lSeq, lSet, lRet, lRetN, lDrop, lIfS, lOp, lVar, lC, lB, lT, lAnd, lOr, lNot, lIf, lAndV, lOrV, lNotV, lNil, lCons, lTup, lLst, lCB, lBM, lSl, lPart, lNext, lFor, lIt, lRng1, lRng2, lAsg, lPar, lSetI, lSetA, lAugS, lLc, lZip, lNeg, lCall, lChain, List.getElem?_cons_zero, List.getElem?_cons_succ, List.set_cons_zero, List.set_cons_succ, wipeE, intP, intE, if_true]
    refine ⟨b, l, _, rfl, k4.other e hlb, by simpa using ne, by rw [List.length_map, sizeL]; omega, hlb, B4, fun y h5 hy k5 B5 => ?_⟩
    obtain ⟨c, hc, rfl⟩ := List.mem_map.mp hy
    have hbl := B4.lt
    simp only [List.length_cons] at hl4
    refine hky _ _ (k5.other e4 (by omega)) (by rw [List.length_map, sizeL]; omega) ⟨ms ++ [c], by simp, ?_, by simp; omega, (k4.trans k5).fresh (Nat.le_refl _), B5.set hb, fun v hv => hle v (List.mem_cons_of_mem _ hv)⟩
    intro z hz
    rcases List.mem_append.mp hz with z1 | z1
    · exact hm z z1
    · rw [List.mem_singleton.mp z1]; exact hc
  · intro v hv
    unfold rangeL at hv
    obtain ⟨i, _, rfl⟩ := List.mem_map.mp hv
    exact ⟨_, rfl⟩
end Y

namespace Y
open PySem PySem.Spec PyProof.Rows L2
structure Ad where
  a_Book : Addr
  a_Comparer : Addr
  a_Watch : Addr
  a_GainTable : Addr
  a_GameTable : Addr
  a_Lane : Addr
  a_Machine : Addr
  a_Nearest : Addr
  a_Prices : Addr
  a_Rulebook : Addr
  a_Sender : Addr
  a_Speaker : Addr
  a_Standing : Addr
  a_Writer : Addr
  a_Tails : Addr
  a_Teasing : Addr
  a_VersusTable : Addr
  a_WaitTable : Addr
  a_TURNED : Addr
  a_WORD_OF : Addr
  a_WORDS : Addr
  a_STEP_OF : Addr
  a_EarlyError : Addr
  a_AlreadyEnded : Addr
  a_BadArrow : Addr
  a_BadLine : Addr
  a_BadRule : Addr
  a_BeyondEnd : Addr
  a_Broken : Addr
  a_Contradiction : Addr
  a_DoesNotFit : Addr
  a_Ended : Addr
  a_EndsShort : Addr
  a_Finished : Addr
  a_KeepNotShown : Addr
  a_NeedsNoPromise : Addr
  a_NoDeed : Addr
  a_NoElder : Addr
  a_NoRule : Addr
  a_NoSaying : Addr
  a_NoStand : Addr
  a_NoSuchLetter : Addr
  a_NoTick : Addr
  a_NoWait : Addr
  a_NotARing : Addr
  a_NotAScript : Addr
  a_NotAWalk : Addr
  a_NotClaimed : Addr
  a_NotComparable : Addr
  a_NotHeights : Addr
  a_NotLet : Addr
  a_NotOnRim : Addr
  a_NotSent : Addr
  a_NotWhole : Addr
  a_Nothing : Addr
  a_Stopped : Addr
  a_TooMany : Addr
  a_UnderLag : Addr
  a_UnderTotal : Addr
  a_Unsettled : Addr
  a_Wrong : Addr
theorem atI_n {α : Type} (xs : List α) (i : Nat) : atI xs (i : Int) = xs[i]? := by
  by_cases h : i < xs.length
  · exact (L2.atI_nat (List.getElem?_eq_getElem h)).trans (List.getElem?_eq_getElem h).symm
  · rw [List.getElem?_eq_none (by omega)]
    unfold atI ixN
    rw [if_pos (by omega), if_neg (by omega)]
    rfl
def sp__law_bag (_ : Ad) : LSp := spBag
def sp__law_take (_ : Ad) : LSp := spTake
def sp__law_one (_ : Ad) : LSp := spOne
def sp__law_mixed (_ : Ad) : LSp := spMixed
def sp__law_alphabet (_ : Ad) : LSp := spAlpha
def sp__law_full (_ : Ad) : LSp := spFull
def sp__law_alike (_ : Ad) : LSp := spAlike
abbrev N__law_bag : List Str := ["_law_script", "_law_cell"]
def t__law_bag (ad : Ad) : LS :=
    lRet (lLst (lCons (lC (.int 0)) (lCons (lC (.int 1234567891)) (lCons (lC (.int 0)) (lCons (lLc (lIt (lSl (lVar 0) (lPart none) (lPart (some (lC (.int 63)))))) (.nm 1) (lYes) (lCB absE (lCons (lVar 1) (lNil))) [1]) (lNil))))))
abbrev N__law_take : List Str := ["_law_bag_here", "_law_many", "_law_cell", "_law_mixed_here", "_law_drawn", "_law_early", "_law_second"]
def t__law_take (ad : Ad) : LS :=
    lSeq (lIfS (lB (lOp (eqE false) (lOp ixA (lVar 0) (lC (.int 0))) (lC (.int 0))))
      (lSeq (lSet (lOp ixA (lOp addE (lSl (lOp ixA (lVar 0) (lC (.int 3))) (lPart (some (lOp ixA (lVar 0) (lC (.int 2))))) (lPart none)) (lLst (lCons (lC (.int 0)) (lNil)))) (lC (.int 0))) 2) <|
    lSeq (lAugS (fun i j => i + j) (lVar 0) (lC (.int 2)) (lC (.int 1))) <|
    lSeq (lSetA (lVar 0) (lC (.int 0)) (lOp mulE (lVar 2) (lCB intOf (lCons (lOp geE (lVar 2) (lOp powE (lC (.int 10)) (lC (.int 18)))) (lNil))))) <|
    lSeq (lSet (lOp addE (lOp addE (lOp mulE (lOp ixA (lVar 0) (lC (.int 1))) (lC (.int 48271))) (lOp modE (lCB intOf (lCons (lVar 2) (lNil))) (lC (.int 2147483647)))) (lOp mulE (lC (.int 7919)) (lOp ixA (lVar 0) (lC (.int 2))))) 3) <|
    lSetA (lVar 0) (lC (.int 1)) (lOp modE (lCB intOf (lCons (lVar 3) (lNil))) (lC (.int 2147483647))))
      (lNext)) <|
    lSeq (lIfS (lB (lOp gtE (lOp ixA (lVar 0) (lC (.int 0))) (lC (.int 0))))
      (lSeq (lSet (lOp modE (lCB intOf (lCons (lOp ixA (lVar 0) (lC (.int 0))) (lNil))) (lVar 1)) 4) <|
    lSeq (lSetA (lVar 0) (lC (.int 0)) (lOp fdivE (lCB intOf (lCons (lOp ixA (lVar 0) (lC (.int 0))) (lNil))) (lVar 1))) <|
    lRet (lVar 4))
      (lNext)) <|
    lSeq (lSet (lOp modE (lCB intOf (lCons (lOp mulE (lOp addE (lOp ixA (lVar 0) (lC (.int 1))) (lC (.int 1))) (lC (.int 39373))) (lNil))) (lC (.int 1000000007))) 5) <|
    lSeq (lSet (lOp modE (lCB intOf (lCons (lOp mulE (lOp modE (lCB intOf (lCons (lOp mulE (lVar 5) (lVar 5)) (lNil))) (lC (.int 998244353))) (lC (.int 30011))) (lNil))) (lC (.int 998244353))) 6) <|
    lRet (lOp modE (lCB intOf (lCons (lOp fdivE (lVar 6) (lC (.int 7))) (lNil))) (lVar 1))
abbrev N__law_one : List Str := ["_law_bag_here", "_law_some"]
def t__law_one (ad : Ad) : LS :=
    lRet (lOp ixA (lVar 1) (lCall (sp__law_take ad) (lCons (lVar 0) (lCons (lCB lenE (lCons (lVar 1) (lNil))) (lNil)))))
abbrev N__law_mixed : List Str := ["_law_bag_here", "_law_things", "_law_found", "_law_thing"]
def t__law_mixed (ad : Ad) : LS :=
    lSeq (lSet (lLst (lNil)) 2) <|
    lSeq (lFor (lIt (lVar 1)) (.nm 3)
      (lDrop (lBM "list" insertE (lVar 2) (lCons (lCall (sp__law_take ad) (lCons (lVar 0) (lCons (lOp addE (lCB lenE (lCons (lVar 2) (lNil))) (lC (.int 1))) (lNil)))) (lCons (lVar 3) (lNil)))))) <|
    lRet (lVar 2)
abbrev N__law_alphabet : List Str := ["_law_bag_here"]
def t__law_alphabet (ad : Ad) : LS :=
    lRet (lSl (lCall (sp__law_mixed ad) (lCons (lVar 0) (lCons (lLst (lCons (lC (.int 0)) (lCons (lC (.int 1)) (lCons (lC (.int 2)) (lCons (lC (.int 3)) (lCons (lC (.int 48)) (lCons (lC (.int 999999999)) (lCons (lOp powE (lC (.int 10)) (lC (.int 9))) (lNil))))))))) (lNil)))) (lPart none) (lPart (some (lCall (sp__law_one ad) (lCons (lVar 0) (lCons (lLst (lCons (lC (.int 2)) (lCons (lC (.int 3)) (lCons (lC (.int 2)) (lCons (lC (.int 1)) (lCons (lC (.int 4)) (lNil))))))) (lNil)))))))
abbrev N__law_full : List Str := ["_law_bag_here", "_law_letters", "_law_size", "_law_k"]
def t__law_full (ad : Ad) : LS :=
    lRet (lCB tupleOf (lCons (lLc (lRng1 (lCons (lVar 2) (lNil))) (.nm 3) (lYes) (lCall (sp__law_one ad) (lCons (lVar 0) (lCons (lVar 1) (lNil)))) [3]) (lNil)))
abbrev N__law_alike : List Str := ["_law_found", "_law_due"]
def t__law_alike (ad : Ad) : LS :=
    lRet (lAndV (lOp (eqE false) (lVar 0) (lVar 1)) (lOp (eqE false) (lCB reprE (lCons (lVar 0) (lNil))) (lCB reprE (lCons (lVar 1) (lNil)))))
theorem pure__law_bag (ad : Ad) (evs : List EV) (h : EH) (Q : EK) (q : sp__law_bag ad evs h Q) : t__law_bag ad (endsOf Q) (startE N__law_bag evs) h := pureBag evs h Q q
theorem pure__law_take (ad : Ad) (evs : List EV) (h : EH) (Q : EK) (q : sp__law_take ad evs h Q) : t__law_take ad (endsOf Q) (startE N__law_take evs) h := pureTake evs h Q q
theorem pure__law_one (ad : Ad) (evs : List EV) (h : EH) (Q : EK) (q : sp__law_one ad evs h Q) : t__law_one ad (endsOf Q) (startE N__law_one evs) h := pureOne evs h Q q
theorem pure__law_mixed (ad : Ad) (evs : List EV) (h : EH) (Q : EK) (q : sp__law_mixed ad evs h Q) : t__law_mixed ad (endsOf Q) (startE N__law_mixed evs) h := pureMixed evs h Q q
theorem pure__law_alphabet (ad : Ad) (evs : List EV) (h : EH) (Q : EK) (q : sp__law_alphabet ad evs h Q) : t__law_alphabet ad (endsOf Q) (startE N__law_alphabet evs) h := pureAlpha evs h Q q
theorem pure__law_full (ad : Ad) (evs : List EV) (h : EH) (Q : EK) (q : sp__law_full ad evs h Q) : t__law_full ad (endsOf Q) (startE N__law_full evs) h := pureFull evs h Q q
theorem pure__law_alike (ad : Ad) (evs : List EV) (h : EH) (Q : EK) (q : sp__law_alike ad evs h Q) : t__law_alike ad (endsOf Q) (startE N__law_alike evs) h := pureAlike evs h Q q
theorem len__law_bag (ad : Ad) (evs : List EV) (h : EH) (Q : EK) (q : sp__law_bag ad evs h Q) : evs.length = ["_law_script"].length := lenBag evs h Q q
theorem len__law_take (ad : Ad) (evs : List EV) (h : EH) (Q : EK) (q : sp__law_take ad evs h Q) : evs.length = ["_law_bag_here", "_law_many"].length := lenTake evs h Q q
theorem len__law_one (ad : Ad) (evs : List EV) (h : EH) (Q : EK) (q : sp__law_one ad evs h Q) : evs.length = ["_law_bag_here", "_law_some"].length := lenOne evs h Q q
theorem len__law_mixed (ad : Ad) (evs : List EV) (h : EH) (Q : EK) (q : sp__law_mixed ad evs h Q) : evs.length = ["_law_bag_here", "_law_things"].length := lenMixed evs h Q q
theorem len__law_alphabet (ad : Ad) (evs : List EV) (h : EH) (Q : EK) (q : sp__law_alphabet ad evs h Q) : evs.length = ["_law_bag_here"].length := by obtain ⟨_, rfl, _⟩ := q; rfl
theorem len__law_full (ad : Ad) (evs : List EV) (h : EH) (Q : EK) (q : sp__law_full ad evs h Q) : evs.length = ["_law_bag_here", "_law_letters", "_law_size"].length := by obtain ⟨_, _, _, _, rfl, _⟩ := q; rfl
theorem len__law_alike (ad : Ad) (evs : List EV) (h : EH) (Q : EK) (q : sp__law_alike ad evs h Q) : evs.length = ["_law_found", "_law_due"].length := lenAlike evs h Q q
end Y

namespace Y
def omin : Option Int → Option Int → Option Int
  | none, b => b
  | a, none => a
  | some a, some b => some (min a b)
def oadd (a : Option Int) (k : Int) : Option Int := a.map (· + k)
structure GridOf where
  same : Nat → Nat → Bool
  drop : Nat → Int
  put : Nat → Int
  lag : Nat → Nat → Bool
def GridOf.best (g : GridOf) : Nat → Nat → Option Int
  | 0, 0 => some 0
  | i + 1, 0 => if g.lag (i + 1) 0 = true then oadd (g.best i 0) (g.drop i) else none
  | 0, j + 1 => if g.lag 0 (j + 1) = true then oadd (g.best 0 j) (g.put j) else none
  | i + 1, j + 1 => if g.lag (i + 1) (j + 1) = true then omin (if g.same i j = true then g.best i j else none) (omin (oadd (g.best i (j + 1)) (g.drop i)) (oadd (g.best (i + 1) j) (g.put j))) else none
  termination_by i j => i + j
def GridOf.part (g : GridOf) (done : Nat → Nat → Bool) : Nat → Nat → Option Int
  | 0, 0 => some 0
  | i + 1, 0 => if g.lag (i + 1) 0 = true then (if done i 0 = true then oadd (g.best i 0) (g.drop i) else none) else none
  | 0, j + 1 => if g.lag 0 (j + 1) = true then (if done 0 j = true then oadd (g.best 0 j) (g.put j) else none) else none
  | i + 1, j + 1 => if g.lag (i + 1) (j + 1) = true then omin (if (g.same i j && done i j) = true then g.best i j else none)
      (omin (if done i (j + 1) = true then oadd (g.best i (j + 1)) (g.drop i) else none) (if done (i + 1) j = true then oadd (g.best (i + 1) j) (g.put j) else none)) else none
def mark (done : Nat → Nat → Bool) (a b : Nat) : Nat → Nat → Bool := fun i j => done i j || (decide (i = a) && decide (j = b))
def ptsL (n m : Nat) : List (Nat × Nat) := (List.range (n + 1)).flatMap fun i => (List.range (m + 1)).map fun j => (i, j)
theorem ptsL_mem {n m : Nat} {p : Nat × Nat} : p ∈ ptsL n m ↔ p.1 ≤ n ∧ p.2 ≤ m := by
  unfold ptsL
  rw [List.mem_flatMap]
  constructor
  · rintro ⟨i, hi, hp⟩
    obtain ⟨j, hj, rfl⟩ := List.mem_map.mp hp
    simp at hi hj
    exact ⟨by show i ≤ n; omega, by show j ≤ m; omega⟩
  · intro h
    exact ⟨p.1, by simp; omega, List.mem_map.mpr ⟨p.2, by simp; omega, rfl⟩⟩
end Y

namespace Y
open PySem PySem.Spec PyProof.Rows L2

abbrev tx (xs : List Int) : EV := .tup (xs.map EV.int)
def ptE (i j : Nat) : EV := .tup [.int i, .int j]
def pairE (p : Int × Int) : EV := .tup [.int p.1, .int p.2]
inductive Prom where
  | none | total (g : Int) | lag (g : Int)
def Prom.e : Prom → EV
  | .none => .tup [.str [110, 111, 110, 101]]
  | .total g => .tup [.str [116, 111, 116, 97, 108], .int g]
  | .lag g => .tup [.str [108, 97, 103], .int g]
def Prom.ok : Prom → Nat → Nat → Bool
  | .lag g, i, j => decide ((((i : Int) - j).natAbs : Int) ≤ g)
  | _, _, _ => true
abbrev Tab := List (Int × (Int × Int))
def tabKV (l : Tab) : List (EV × EV) := l.map fun q => (.int q.1, pairE q.2)
def cost (l : Tab) (x : Int) : Int × Int := (l.lookup x).getD (1, 1)
def PrAt (ad : Ad) (h : EH) (r : Nat) (l : Tab) : Prop := ∃ d, h[r]? = some (.slo ad.a_Prices [some (.ref d)]) ∧ h[d]? = some (.dic (tabKV l))
def mvI (i c : Nat) : Nat := if c = 112 then i else i + 1
def mvJ (j c : Nat) : Nat := if c = 100 then j else j + 1
def isStep (c : Nat) : Prop := c = 107 ∨ c = 100 ∨ c = 112
def canDo (l r : List Int) (c i j : Nat) : Bool := if c = 112 then decide (j < r.length) else if c = 100 then decide (i < l.length) else decide (i < l.length) && decide (j < r.length) && decide (l.getD i 0 = r.getD j 0)
def stepCost (f : Int → Int × Int) (l r : List Int) (c i j : Nat) : Int := if c = 107 then 0 else if c = 100 then (f (l.getD i 0)).1 else (f (r.getD j 0)).2
structure Wd where
  l : List Int
  r : List Int
  c : Tab
  p : Prom
def Wd.stp (w : Wd) (i j : Nat) : List Nat := [107, 100, 112].filter fun c => canDo w.l w.r c i j && w.p.ok (mvI i c) (mvJ j c)
def Told (h : EH) (xs : List EV) (Q : EK) : Prop := ∀ r h', Keep no1 h h' → h.length ≤ r → h'[r]? = some (.lst xs) → Q (.ref r) h'
theorem PrAt.keep {ad : Ad} {h h' : EH} {r : Nat} {l : Tab} (p : PrAt ad h r l) (k : Keep no1 h h') : PrAt ad h' r l := by
  obtain ⟨d, a, b⟩ := p
  exact ⟨d, k.at a, k.at b⟩
end Y

namespace Y
open PySem PySem.Spec PyProof.Rows L2

theorem app_f {h : EH} {r : Nat} {xs : List EV} {v : EV} {P : EK} (e : h[r]? = some (.lst xs)) (hl : xs.length < sizeLine) (p : P .non (h.set r (.lst (xs ++ [v])))) : appendE (.ref r) [v] h P := by
  unfold appendE onList; simp only [e]; exact ⟨hl, p⟩
theorem isTy_l {h : EH} {r : Nat} {xs : List EV} (e : h[r]? = some (.lst xs)) : isTy "list" (.ref r) h := by
  unfold isTy; simp only [e]
structure TabOk (l : Tab) : Prop where
  nd : (l.map (·.1)).Nodup
  rg : ∀ q ∈ l, (0 ≤ q.1 ∧ q.1 ≤ 1000000000) ∧ (1 ≤ q.2.1 ∧ q.2.1 ≤ 9) ∧ (1 ≤ q.2.2 ∧ q.2.2 ≤ 9)
end Y

namespace Y
open PySem PySem.Spec PyProof.Rows L2

def isInt : EV → Bool
  | .int _ => true
  | _ => false
def isBt (v : EV) (lo hi : Int) : Bool := match v with
  | .int i => decide (lo ≤ i) && decide (i ≤ hi)
  | _ => false
def sp_is_integer (ad : Ad) : LSp := fun evs h Q => ∃ v t, evs = [v] ∧ tyE v h = some t ∧ Q (.bl (isInt v)) h
def sp_is_between (ad : Ad) : LSp := fun evs h Q => ∃ v t lo hi, evs = [v, .int lo, .int hi] ∧ tyE v h = some t ∧ Q (.bl (isBt v lo hi)) h
def sp_is_letter (ad : Ad) : LSp := fun evs h Q => ∃ v t, evs = [v] ∧ tyE v h = some t ∧ Q (.bl (isBt v 0 1000000000)) h
abbrev N_is_integer : List Str := ["thing"]
def t_is_integer (ad : Ad) : LS :=
    lRet (lAndV (lCB isiE (lCons (lVar 0) (lCons (lC (.ty "int")) (lNil)))) (lNotV (lCB isiE (lCons (lVar 0) (lCons (lC (.ty "bool")) (lNil))))))
abbrev N_is_between : List Str := ["thing", "low", "high"]
def t_is_between (ad : Ad) : LS :=
    lRet (lAndV (lCall (sp_is_integer ad) (lCons (lVar 0) (lNil))) (lChain leE leE (lVar 1) (lVar 0) (lVar 2)))
abbrev N_is_letter : List Str := ["thing"]
def t_is_letter (ad : Ad) : LS :=
    lRet (lCall (sp_is_between ad) (lCons (lVar 0) (lCons (lC (.int 0)) (lCons (lC (.int 1000000000)) (lNil)))))
theorem len_is_integer (ad : Ad) (evs : List EV) (h : EH) (Q : EK) (q : sp_is_integer ad evs h Q) : evs.length = ["thing"].length := by
  obtain ⟨_, _, rfl, _⟩ := q; rfl
theorem len_is_between (ad : Ad) (evs : List EV) (h : EH) (Q : EK) (q : sp_is_between ad evs h Q) : evs.length = ["thing", "low", "high"].length := by
  obtain ⟨_, _, _, _, rfl, _⟩ := q; rfl
theorem len_is_letter (ad : Ad) (evs : List EV) (h : EH) (Q : EK) (q : sp_is_letter ad evs h Q) : evs.length = ["thing"].length := by
  obtain ⟨_, _, rfl, _⟩ := q; rfl
theorem pure_is_integer (ad : Ad) (evs : List EV) (h : EH) (Q : EK) (q : sp_is_integer ad evs h Q) : t_is_integer ad (endsOf Q) (startE N_is_integer evs) h := by
  obtain ⟨v, t, rfl, ht, q⟩ := q
  show t_is_integer ad (endsOf Q) [some v] h
  have e : (isiB t "int" && !isiB t "bool") = isInt v := by
    cases v <;> simp [tyE] at ht <;> try (subst ht; rfl)
    split at ht <;> simp at ht <;> subst ht <;> rfl
  simp only [t_is_integer, lSeq, lSet, lRet, lRetN, lDrop, lIfS, lOp, lVar, lC, lB, lT, lAnd, lOr, lNot, lIf, lAndV, lOrV, lNotV, lNil, lCons, lTup, lLst, lCB, lBM, lSl, lPart, lNext, lFor, lIt, lRng1, lRng2, lAsg, lPar, lSetI, lSetA, lAugS, lLc, lZip, lNeg, lCall, lChain, List.getElem?_cons_zero, List.getElem?_cons_succ, List.set_cons_zero, List.set_cons_succ, wipeE, intP, intE, isiE, ht]
  refine ⟨by simp, ?_⟩
  cases e1 : isiB t "int"
  · rw [e1] at e
    simp only [Bool.false_eq_true, if_false]
    rw [← e] at q; exact q
  · rw [e1] at e
    simp only [if_true, ht]
    refine ⟨by simp, ?_⟩
    rw [← e] at q
    simpa using q
theorem pure_is_between (ad : Ad) (evs : List EV) (h : EH) (Q : EK) (q : sp_is_between ad evs h Q) : t_is_between ad (endsOf Q) (startE N_is_between evs) h := by
  obtain ⟨v, t, lo, hi, rfl, ht, q⟩ := q
  show t_is_between ad (endsOf Q) [some v, some (.int lo), some (.int hi)] h
  simp only [t_is_between, lSeq, lSet, lRet, lRetN, lDrop, lIfS, lOp, lVar, lC, lB, lT, lAnd, lOr, lNot, lIf, lAndV, lOrV, lNotV, lNil, lCons, lTup, lLst, lCB, lBM, lSl, lPart, lNext, lFor, lIt, lRng1, lRng2, lAsg, lPar, lSetI, lSetA, lAugS, lLc, lZip, lNeg, lCall, lChain, List.getElem?_cons_zero, List.getElem?_cons_succ, List.set_cons_zero, List.set_cons_succ, wipeE, intP, intE]
  refine ⟨v, t, rfl, ht, ?_⟩
  cases v with
  | int i =>
    simp only [isInt, if_true, isBt] at q ⊢
    refine le_i ?_
    dsimp only
    by_cases h1 : lo ≤ i
    · simp only [h1, decide_true, Bool.true_and, if_true] at q ⊢
      exact le_i q
    · simpa [h1] using q
  | _ => simpa [isInt, isBt] using q
theorem pure_is_letter (ad : Ad) (evs : List EV) (h : EH) (Q : EK) (q : sp_is_letter ad evs h Q) : t_is_letter ad (endsOf Q) (startE N_is_letter evs) h := by
  obtain ⟨v, t, rfl, ht, q⟩ := q
  show t_is_letter ad (endsOf Q) [some v] h
  simp only [t_is_letter, lSeq, lSet, lRet, lRetN, lDrop, lIfS, lOp, lVar, lC, lB, lT, lAnd, lOr, lNot, lIf, lAndV, lOrV, lNotV, lNil, lCons, lTup, lLst, lCB, lBM, lSl, lPart, lNext, lFor, lIt, lRng1, lRng2, lAsg, lPar, lSetI, lSetA, lAugS, lLc, lZip, lNeg, lCall, lChain, List.getElem?_cons_zero, List.getElem?_cons_succ, List.set_cons_zero, List.set_cons_succ, wipeE, intP, intE]
  exact ⟨v, t, _, _, rfl, ht, q⟩
def TabRg (l : Tab) : Prop := ∀ q ∈ l, (0 ≤ q.1 ∧ q.1 ≤ 1000000000) ∧ (1 ≤ q.2.1 ∧ q.2.1 ≤ 9) ∧ (1 ≤ q.2.2 ∧ q.2.2 ≤ 9)
def prTab (t : Tab) : Tab := (t.mergeSort fun a b => decide (a.1 ≤ b.1)).filter fun q => decide (q.2 ≠ (1, 1))
end Y

namespace Y
open PySem PySem.Spec PyProof.Rows L2

def optE : Option Int → EV
  | none => .non
  | some i => .int i
abbrev Tbl := Nat → Nat → Option Int
def rowE (m : Nat) (f : Nat → Option Int) : List EV := (List.range (m + 1)).map fun j => optE (f j)
theorem rowE_at {m j : Nat} {f : Nat → Option Int} (h : j ≤ m) : (rowE m f)[j]? = some (optE (f j)) := by
  unfold rowE
  rw [List.getElem?_map, List.getElem?_range (by omega)]; rfl
theorem rowE_len (m : Nat) (f : Nat → Option Int) : (rowE m f).length = m + 1 := by simp [rowE]
def RowsAt (h : EH) (b t r n m : Nat) (R : Tbl) : Prop := ∃ rs : List Nat, h[r]? = some (.lst (rs.map EV.ref)) ∧ rs.length = n + 1 ∧ rs.Nodup ∧ r ∉ rs ∧ (b ≤ r ∧ r < t) ∧ (∀ q ∈ rs, b ≤ q ∧ q < t) ∧ ∀ (i q : Nat), rs[i]? = some q → h[q]? = some (.lst (rowE m (R i)))
def upd (R : Tbl) (i j : Nat) (v : Option Int) : Tbl := fun a b => if a = i ∧ b = j then v else R a b
theorem RowsAt.row {h : EH} {b t r n m : Nat} {R : Tbl} (z : RowsAt h b t r n m R) {i : Nat} (hi : i ≤ n) : ∃ q xs, h[r]? = some (.lst xs) ∧ xs[i]? = some (.ref q) ∧ xs.length = n + 1 ∧ (b ≤ q ∧ q < t) ∧ q ≠ r ∧ h[q]? = some (.lst (rowE m (R i))) := by
  obtain ⟨rs, e, l, nd, nr, br, bq, z⟩ := z
  have hl : i < rs.length := by omega
  have e1 : rs[i]? = some rs[i] := List.getElem?_eq_getElem hl
  have hm := List.getElem_mem hl
  exact ⟨rs[i], _, e, by rw [List.getElem?_map, e1]; rfl, by simpa using l, bq _ hm, fun z => nr (by rw [← z]; exact hm), z _ _ e1⟩
theorem RowsAt.lt {h : EH} {b t r n m : Nat} {R : Tbl} (z : RowsAt h b t r n m R) : b ≤ r ∧ r < t := z.choose_spec.2.2.2.2.1
theorem rowE_set {m i j : Nat} {R : Tbl} {v : Option Int} (hj : j ≤ m) : (rowE m (R i)).set j (optE v) = rowE m (upd R i j v i) := by
  refine List.ext_getElem? fun k => ?_
  rw [List.getElem?_set]
  by_cases e : j = k
  · subst e
    have e2 := rowE_at (f := upd R i j v i) hj
    rw [if_pos rfl, rowE_len, if_pos (by omega), e2]
    unfold upd
    rw [if_pos ⟨rfl, rfl⟩]
  · rw [if_neg e]
    unfold rowE
    rw [List.getElem?_map, List.getElem?_map]
    by_cases hk : k < m + 1
    · rw [List.getElem?_range hk]
      exact congrArg (fun z => some (optE z)) (if_neg fun z => e z.2.symm).symm
    · rw [List.getElem?_eq_none (by simp; omega)]; rfl
theorem RowsAt.set {h : EH} {b t r n m i j q : Nat} {R : Tbl} {v : Option Int} {xs : List EV} (z : RowsAt h b t r n m R) (e : h[r]? = some (.lst xs)) (a : xs[i]? = some (.ref q)) (hj : j ≤ m) :
    RowsAt (h.set q (.lst ((rowE m (R i)).set j (optE v)))) b t r n m (upd R i j v) := by
  obtain ⟨rs, e', l, nd, nr, br, bq, z⟩ := z
  rw [e'] at e
  cases e
  rw [List.getElem?_map] at a
  obtain ⟨q', e1, e2⟩ := Option.map_eq_some_iff.mp a
  cases e2
  have hm := List.mem_of_getElem? e1
  have z1 := z _ _ e1
  refine ⟨rs, set_off e' (fun y => nr (by rw [y]; exact hm)), l, nd, nr, br, bq, fun k q2 hk => ?_⟩
  by_cases ek : k = i
  · subst ek
    rw [e1] at hk
    cases hk
    rw [set_at z1, rowE_set hj]
  · have ne : q2 ≠ q := by
      rintro rfl
      obtain ⟨l1, h1⟩ := List.getElem?_eq_some_iff.mp hk
      obtain ⟨l2, h2⟩ := List.getElem?_eq_some_iff.mp e1
      exact ek ((List.getElem_inj nd).mp (h1.trans h2.symm))
    rw [set_off (z _ _ hk) ne]
    refine congrArg (fun f => some (EO.lst (rowE m f))) (funext fun x => ?_)
    simp [upd, ek]
theorem RowsAt.keep {h h' : EH} {b t r n m : Nat} {R : Tbl} (z : RowsAt h b t r n m R) (k : Keep no1 h h') : RowsAt h' b t r n m R := by
  obtain ⟨rs, e, l, nd, nr, br, bq, z⟩ := z
  exact ⟨rs, k.at e, l, nd, nr, br, bq, fun i q hq => k.at (z i q hq)⟩
theorem RowsAt.more {h : EH} {b t t' r n m : Nat} {R : Tbl} (z : RowsAt h b t r n m R) (l : t ≤ t') : RowsAt h b t' r n m R := by
  obtain ⟨rs, e, l', nd, nr, br, bq, z⟩ := z
  exact ⟨rs, e, l', nd, nr, ⟨br.1, by omega⟩, fun q hq => ⟨(bq q hq).1, Nat.lt_of_lt_of_le (bq q hq).2 l⟩, z⟩
theorem atI_last' {α : Type} {xs : List α} {n : Nat} (l : xs.length = n + 1) : atI xs (n : Int) = atI xs (-1) := by
  unfold atI ixN
  rw [if_pos (by omega), if_pos (by omega), if_neg (by omega), if_pos (by omega)]
  have e : ((-1 : Int) + ((xs.length : Nat) : Int)).toNat = n := by omega
  have e2 : (n : Int).toNat = n := by omega
  simp only [e2]
  first | rw [e] | (congr 1; omega)
theorem RowsAt.congr {h : EH} {b t r n m : Nat} {R R' : Tbl} (z : RowsAt h b t r n m R) (e : ∀ i j, i ≤ n → j ≤ m → R i j = R' i j) : RowsAt h b t r n m R' := by
  obtain ⟨rs, e', l, nd, nr, br, bq, z⟩ := z
  refine ⟨rs, e', l, nd, nr, br, bq, fun i q hq => ?_⟩
  rw [z i q hq]
  have hi := (List.getElem?_eq_some_iff.mp hq).1
  unfold rowE
  refine congrArg (fun l => some (EO.lst l)) (List.map_congr_left fun j hj => ?_)
  simp at hj
  rw [e i j (by omega) (by omega)]
def Wd.g (w : Wd) : GridOf where
  same i j := decide (w.l.getD i 0 = w.r.getD j 0)
  drop i := (cost w.c (w.l.getD i 0)).1
  put j := (cost w.c (w.r.getD j 0)).2
  lag := w.p.ok
abbrev Wd.n (w : Wd) : Nat := w.l.length
abbrev Wd.m (w : Wd) : Nat := w.r.length
theorem Wd.stp_le (w : Wd) {i j c : Nat} (hc : c ∈ w.stp i j) (hi : i ≤ w.l.length) (hj : j ≤ w.r.length) : mvI i c ≤ w.l.length ∧ mvJ j c ≤ w.r.length := by
  unfold Wd.stp at hc
  simp only [List.mem_filter, List.mem_cons, List.not_mem_nil, or_false, Bool.and_eq_true] at hc
  obtain ⟨rfl | rfl | rfl, hd, _⟩ := hc <;> simp [canDo] at hd <;> simp [mvI, mvJ] <;> omega
end Y

namespace Y
open PySem PySem.Spec PyProof.Rows L2

def GridOf.cell (g : GridOf) (i j : Nat) : List (Option Int) :=
  (if i = 0 ∧ j = 0 then [some 0] else []) ++ (if 0 < i ∧ 0 < j ∧ g.same (i - 1) (j - 1) = true then [g.best (i - 1) (j - 1)] else []) ++
  (if 0 < i ∧ g.best (i - 1) j ≠ none then [oadd (g.best (i - 1) j) (g.drop (i - 1))] else []) ++ (if 0 < j ∧ g.best i (j - 1) ≠ none then [oadd (g.best i (j - 1)) (g.put (j - 1))] else [])
theorem eqE_nil {n : Bool} {a b : Nat} {ns : List Int} {h : EH} {P : EK} (e : h[a]? = some (.lst (ns.map EV.int))) (e2 : h[b]? = some (.lst [])) (p : P (.bl (n ^^ decide (ns = []))) h) : eqE n (.ref a) (.ref b) h P := by
  unfold eqE
  have d1 : ∀ l : List Int, Dats h 59 (l.map EV.int) (l.map PyData.int) := by
    intro l
    induction l with
    | nil => exact .nil
    | cons x l ih => exact .cons (.int x) ih
  refine ⟨.list (ns.map PyData.int), .list [], .lst e (d1 ns), .lst e2 .nil, ?_⟩
  have e3 : PyData.eqv (.list (ns.map PyData.int)) (.list []) = decide (ns = []) := by
    cases ns <;> simp [PyData.eqv, PyData.eqvAll]
  rw [e3]
  exact p
def PromNN : Prom → Prop
  | .lag g => 0 ≤ g
  | _ => True
end Y

namespace Y
open PySem PySem.Spec PyProof.Rows L2

structure GridOf.Small (g : GridOf) : Prop where
  d : ∀ i, 1 ≤ g.drop i ∧ g.drop i ≤ 9
  p : ∀ j, 1 ≤ g.put j ∧ g.put j ≤ 9
theorem cost_rg {t : Tab} (rg : TabRg t) (x : Int) : (1 ≤ (cost t x).1 ∧ (cost t x).1 ≤ 9) ∧ (1 ≤ (cost t x).2 ∧ (cost t x).2 ≤ 9) := by
  unfold cost
  cases e : t.lookup x with
  | none => exact ⟨⟨by decide, by decide⟩, ⟨by decide, by decide⟩⟩
  | some c => 
    obtain ⟨l1, l2, rfl, _⟩ := List.lookup_eq_some_iff.mp e
    exact (rg (x, c) (by simp)).2
theorem Wd.small {w : Wd} (rg : TabRg w.c) : w.g.Small := ⟨fun i => (cost_rg rg _).1, fun j => (cost_rg rg _).2⟩
def optD : Option Int → PyData
  | none => .none
  | some i => .int i
def rowD (m : Nat) (f : Nat → Option Int) : PyData := .list ((List.range (m + 1)).map fun j => optD (f j))
def tblD (n m : Nat) (R : Tbl) : PyData := .list ((List.range (n + 1)).map fun i => rowD m (R i))
def OSm (o : Option Int) : Prop := ∀ v, o = some v → v.natAbs < 10 ^ 12
theorem optE_ds {h : EH} {n : Nat} {o : Option Int} (s : OSm o) : DS h n 41 (optE o) (optD o) := by
  cases o with
  | none => exact .non
  | some v => exact .int (s v rfl) (Nat.le_refl _)
theorem ds_map {α : Type} {h : EH} {n k : Nat} {f : α → EV} {d : α → PyData} : ∀ (l : List α), (∀ x ∈ l, DS h n k (f x) (d x)) → DSs h n (l.length * (k + 1)) (l.map f) (l.map d)
  | [], _ => by simpa using DSs.nil
  | x :: l, hs => by
    have := DSs.cons (hs x (by simp)) (ds_map l fun y hy => hs y (List.mem_cons_of_mem _ hy))
    refine this.more ?_
    rw [List.length_cons, Nat.add_mul]; omega
theorem row_ds {h : EH} {q m n : Nat} {f : Nat → Option Int} (e : h[q]? = some (.lst (rowE m f))) (s : ∀ j, j ≤ m → OSm (f j)) : DS h (n + 1) ((m + 1) * 42) (.ref q) (rowD m f) := by
  refine DS.lst e ?_
  have := ds_map (h := h) (n := n) (k := 41) (f := fun j => optE (f j)) (d := fun j => optD (f j)) (List.range (m + 1)) fun j hj => optE_ds (s j (by simp at hj; omega))
  rw [List.length_range] at this
  exact this
theorem RowsAt.ds {h : EH} {b t r n m k : Nat} {R : Tbl} (z : RowsAt h b t r n m R) (s : ∀ i j, i ≤ n → j ≤ m → OSm (R i j)) : DS h (k + 2) ((n + 1) * ((m + 1) * 42 + 1)) (.ref r) (tblD n m R) := by
  obtain ⟨rs, e, l, nd, nr, br, bq, z⟩ := z
  refine DS.lst e ?_
  have e1 : rs = (List.range (n + 1)).map fun i => rs.getD i 0 := by
    refine List.ext_getElem? fun i => ?_
    rw [List.getElem?_map]
    by_cases hi : i < rs.length
    · rw [List.getElem?_range (by omega), List.getElem?_eq_getElem hi]
      simp [List.getD_eq_getElem?_getD, List.getElem?_eq_getElem hi]
    · rw [List.getElem?_eq_none (by omega), List.getElem?_eq_none (by simp; omega)]; rfl
  have := ds_map (h := h) (n := k + 1) (k := (m + 1) * 42) (f := fun i => EV.ref (rs.getD i 0)) (d := fun i => rowD m (R i)) (List.range (n + 1)) fun i hi => by
    simp at hi
    have hl : i < rs.length := by omega
    refine row_ds (z i _ ?_) fun j hj => s i j (by omega) hj
    rw [List.getD_eq_getElem?_getD, List.getElem?_eq_getElem hl]; rfl
  rw [List.length_range] at this
  rw [e1, List.map_map]
  exact this
end Y

namespace Y
open PySem PySem.Spec PyProof.Rows L2
def GridOf.rest (g : GridOf) (n m i j : Nat) : Option Int :=
  if g.lag i j = true then
    omin (if i = n ∧ j = m then some 0 else none)
      (omin (if _h : i < n ∧ j < m then (if g.same i j = true then g.rest n m (i + 1) (j + 1) else none) else none)
        (omin (if _h : i < n then oadd (g.rest n m (i + 1) j) (g.drop i) else none) (if _h : j < m then oadd (g.rest n m i (j + 1)) (g.put j) else none)))
  else none
  termination_by (n - i) + (m - j)
abbrev Wd.rest (w : Wd) : Tbl := w.g.rest w.n w.m
def Wd.cs (w : Wd) (i j c : Nat) : Int := stepCost (cost w.c) w.l w.r c i j
end Y

namespace Y
open PySem PySem.Spec PyProof.Rows L2

def Wd.tight (w : Wd) (i j : Nat) : List Nat := (w.stp i j).filter fun c => decide (w.rest (mvI i c) (mvJ j c) ≠ none) && decide (oadd (w.rest (mvI i c) (mvJ j c)) (w.cs i j c) = w.rest i j)
end Y

namespace Y
open PySem PySem.Spec PyProof.Rows L2

def Wd.fst (w : Wd) : Nat → Nat → Nat → List Nat
  | 0, _, _ => []
  | k + 1, i, j => if i = w.n ∧ j = w.m then [] else match w.tight i j with
    | [] => []
    | c :: _ => c :: Wd.fst w k (mvI i c) (mvJ j c)
def Wd.first (w : Wd) : List Nat := w.fst (w.n + w.m) 0 0
end Y

namespace Y
open PySem PySem.Spec PyProof.Rows L2

abbrev StepC (s : List Nat) : Prop := ∀ c ∈ s, isStep c
def pts (i j : Nat) : List Nat → List (Nat × Nat)
  | [] => [(i, j)]
  | c :: cs => (i, j) :: pts (mvI i c) (mvJ j c) cs
def offs (s : List Nat) : List Int := (pts 0 0 s).map fun q => (((q.1 : Int) - q.2).natAbs : Int)
def maxL : List Int → Int
  | [] => 0
  | [a] => a
  | a :: b :: l => max a (maxL (b :: l))
def wide (s : List Nat) : Int := maxL (offs s)
def Prom.kept (p : Prom) (s : List Nat) : Bool := match p with
  | .lag g => decide (wide s ≤ g)
  | _ => true
def wrg (l r : List Int) : List Nat → Nat → Nat → Nat → Option Nat
  | [], i, j, k => if i = l.length ∧ j = r.length then none else some k
  | c :: cs, i, j, k => if canDo l r c i j = true then wrg l r cs (mvI i c) (mvJ j c) (k + 1) else some k
def optN (o : Option Nat) : EV := match o with
  | none => .non
  | some k => .int k
def priceS (f : Int → Int × Int) (l r : List Int) : List Nat → Nat → Nat → Int
  | [], _, _ => 0
  | c :: cs, i, j => stepCost f l r c i j + priceS f l r cs (mvI i c) (mvJ j c)
def endS : List Nat → Nat → Nat → Nat × Nat
  | [], i, j => (i, j)
  | c :: cs, i, j => endS cs (mvI i c) (mvJ j c)
theorem endS_app : ∀ (a b : List Nat) (i j : Nat), endS (a ++ b) i j = endS b (endS a i j).1 (endS a i j).2
  | [], b, i, j => rfl
  | c :: a, b, i, j => by rw [List.cons_append, endS, endS_app a b, endS]
end Y

namespace Y
open PySem PySem.Spec PyProof.Rows L2

inductive Dd where
  | keep (n : Nat) | drop (n : Nat) | put (xs : List Int)
inductive Un where
  | k | d | p (x : Int)
abbrev sKeep : List Nat := [107, 101, 101, 112]
abbrev sDrop : List Nat := [100, 114, 111, 112]
abbrev sPut : List Nat := [112, 117, 116]
def Dd.e : Dd → EV
  | .keep n => .tup [.str sKeep, .int n]
  | .drop n => .tup [.str sDrop, .int n]
  | .put xs => .tup [.str sPut, tx xs]
def Un.e : Un → EV
  | .k => .tup [.str [107]]
  | .d => .tup [.str [100]]
  | .p x => .tup [.str [112], .int x]
def Dd.units : Dd → List Un
  | .keep n => List.replicate n .k
  | .drop n => List.replicate n .d
  | .put xs => xs.map .p
abbrev Delta := List Dd
def unitsD (D : Delta) : List Un := D.flatMap Dd.units
def Dd.w : Dd → Nat
  | .keep n => n
  | .drop n => n
  | .put _ => 0
def Dd.kind : Dd → Nat
  | .keep _ => 0
  | .drop _ => 1
  | .put _ => 2
def Dd.ok : Dd → Prop
  | .keep n => 1 ≤ n
  | .drop n => 1 ≤ n
  | .put xs => xs ≠ []
def LetOk (x : Int) : Prop := 0 ≤ x ∧ x ≤ 1000000000
def Proper : Delta → Prop
  | [] => True
  | [d] => d.ok
  | d :: e :: r => d.ok ∧ d.kind ≠ e.kind ∧ Proper (e :: r)
def AllOk (D : Delta) : Prop := ∀ d ∈ D, d.ok
theorem Proper.tail {d : Dd} {r : Delta} (h : Proper (d :: r)) : Proper r := by
  cases r with
  | nil => trivial
  | cons e r => exact h.2.2
theorem Proper.head {d : Dd} {r : Delta} (h : Proper (d :: r)) : d.ok := by
  cases r with
  | nil => exact h
  | cons e r => exact h.1
theorem Proper.all : ∀ {D : Delta}, Proper D → AllOk D
  | [], _ => fun d h => by cases h
  | d :: r, h => fun x hx => by
    rcases List.mem_cons.mp hx with rfl | hx
    · exact h.head
    · exact Proper.all h.tail x hx
theorem unitsD_cons (d : Dd) (D : Delta) : unitsD (d :: D) = d.units ++ unitsD D := by simp [unitsD]
theorem unitsD_app (D E : Delta) : unitsD (D ++ E) = unitsD D ++ unitsD E := by simp [unitsD]
def one : Un → Dd
  | .k => .keep 1
  | .d => .drop 1
  | .p x => .put [x]
def grow : Dd → Un → Option Dd
  | .keep n, .k => some (.keep (n + 1))
  | .drop n, .d => some (.drop (n + 1))
  | .put xs, .p x => some (.put (xs ++ [x]))
  | _, _ => none
def push : Delta → Un → Delta
  | [], u => [one u]
  | [d], u => match grow d u with
    | some e => [e]
    | none => [d, one u]
  | d :: e :: r, u => d :: push (e :: r) u
def packed (us : List Un) : Delta := us.foldl push []
theorem one_units (u : Un) : (one u).units = [u] := by cases u <;> rfl
theorem grow_units {d e : Dd} {u : Un} (h : grow d u = some e) : e.units = d.units ++ [u] := by
  cases d <;> cases u <;> simp [grow] at h <;> subst h <;> simp [Dd.units, List.replicate_succ']
theorem push_units : ∀ (D : Delta) (u : Un), unitsD (push D u) = unitsD D ++ [u]
  | [], u => by simp [push, unitsD, one_units]
  | [d], u => by
    unfold push
    split
    · rename_i e h
      simp [unitsD, grow_units h]
    · simp [unitsD, one_units]
  | d :: e :: r, u => by
    rw [push, unitsD_cons, push_units (e :: r) u, unitsD_cons d (e :: r), List.append_assoc]
theorem foldl_units (us : List Un) : ∀ D, unitsD (us.foldl push D) = unitsD D ++ us := by
  induction us with
  | nil => intro D; simp
  | cons u us ih => intro D; rw [List.foldl_cons, ih, push_units]; simp
theorem packed_units (us : List Un) : unitsD (packed us) = us := by rw [packed, foldl_units]; rfl
theorem push_ne (D : Delta) (u : Un) : push D u ≠ [] := by
  cases D with
  | nil => simp [push]
  | cons d r =>
    cases r with
    | nil => unfold push; split <;> simp
    | cons e r => simp [push]
theorem one_ok (u : Un) : (one u).ok := by cases u <;> simp [one, Dd.ok]
theorem grow_ok {d e : Dd} {u : Un} (h : grow d u = some e) : e.ok ∧ e.kind = d.kind := by
  cases d <;> cases u <;> simp [grow] at h <;> subst h <;> simp [Dd.ok, Dd.kind]
theorem grow_none {d : Dd} {u : Un} (h : grow d u = none) : d.kind ≠ (one u).kind := by
  cases d <;> cases u <;> simp [grow] at h <;> simp [Dd.kind, one]
theorem push_proper : ∀ (D : Delta) (u : Un), Proper D → Proper (push D u)
  | [], u, _ => one_ok u
  | [d], u, h => by
    unfold push
    split
    · rename_i e g
      exact (grow_ok g).1
    · rename_i g
      exact ⟨h, grow_none g, one_ok u⟩
  | d :: e :: r, u, h => by
    have ih := push_proper (e :: r) u h.2.2
    rw [push]
    cases q : push (e :: r) u with
    | nil => exact absurd q (push_ne _ _)
    | cons e' r' =>
      rw [q] at ih
      refine ⟨h.1, ?_, ih⟩
      have : e'.kind = e.kind := by
        cases r with
        | nil =>
          unfold push at q
          split at q
          · rename_i x g
            cases q
            exact (grow_ok g).2
          · cases q; rfl
        | cons f r =>
          rw [push] at q
          cases q; rfl
      rw [this]
      exact h.2.1
theorem foldl_proper (us : List Un) : ∀ D, Proper D → Proper (us.foldl push D) := by
  induction us with
  | nil => intro D h; exact h
  | cons u us ih => intro D h; rw [List.foldl_cons]; exact ih _ (push_proper D u h)
theorem packed_proper (us : List Un) : Proper (packed us) := foldl_proper us [] trivial
theorem push_last (D : Delta) (d : Dd) (u : Un) : push (D ++ [d]) u = match grow d u with
    | some e => D ++ [e]
    | none => D ++ [d, one u] := by
  induction D with
  | nil => simp only [List.nil_append]; unfold push; cases grow d u <;> rfl
  | cons x D ih =>
    cases D with
    | nil =>
      show x :: push [d] u = _
      have := ih
      simp only [List.nil_append] at this
      rw [this]
      cases grow d u <;> rfl
    | cons y D =>
      rw [List.cons_append, List.cons_append, push]
      rw [List.cons_append] at ih
      rw [ih]
      cases grow d u <;> rfl
theorem fold_more (D : Delta) : ∀ (d : Dd) (us : List Un), (∀ u ∈ us, ∃ e, grow d u = some e) → us.foldl push (D ++ [d]) = D ++ [us.foldl (fun e u => (grow e u).getD e) d] := by
  intro d us
  induction us generalizing d with
  | nil => intro _; rfl
  | cons u us ih =>
    intro h
    obtain ⟨e, he⟩ := h u List.mem_cons_self
    rw [List.foldl_cons, List.foldl_cons, push_last, he]
    refine ih e fun v hv => ?_
    obtain ⟨g, hg⟩ := h v (List.mem_cons_of_mem _ hv)
    cases d <;> cases u <;> simp [grow] at he <;> subst he <;> cases v <;> simp [grow] at hg ⊢
theorem fold_k (n m : Nat) : (List.replicate m Un.k).foldl (fun e u => (grow e u).getD e) (.keep n) = .keep (n + m) := by
  induction m generalizing n with
  | zero => rfl
  | succ m ih =>
    rw [List.replicate_succ, List.foldl_cons]
    show List.foldl _ (Dd.keep (n + 1)) _ = _
    rw [ih]; congr 1; omega
theorem fold_d (n m : Nat) : (List.replicate m Un.d).foldl (fun e u => (grow e u).getD e) (.drop n) = .drop (n + m) := by
  induction m generalizing n with
  | zero => rfl
  | succ m ih =>
    rw [List.replicate_succ, List.foldl_cons]
    show List.foldl _ (Dd.drop (n + 1)) _ = _
    rw [ih]; congr 1; omega
theorem fold_p (xs ys : List Int) : (ys.map Un.p).foldl (fun e u => (grow e u).getD e) (.put xs) = .put (xs ++ ys) := by
  induction ys generalizing xs with
  | nil => simp
  | cons y ys ih =>
    rw [List.map_cons, List.foldl_cons]
    show List.foldl _ (Dd.put (xs ++ [y])) _ = _
    rw [ih]; simp
theorem fold_deed (D : Delta) (d : Dd) (ok : d.ok) (hl : ∀ e, D.getLast? = some e → e.kind ≠ d.kind) : d.units.foldl push D = D ++ [d] := by
  have start : ∀ u, (one u).kind = d.kind → push D u = D ++ [one u] := by
    intro u hu
    rcases List.eq_nil_or_concat D with rfl | ⟨D', e, rfl⟩
    · rfl
    · rw [List.concat_eq_append, push_last]
      have := hl e (by simp)
      cases g : grow e u with
      | none => simp
      | some x =>
        exfalso
        apply this
        rw [← hu]
        cases e <;> cases u <;> simp [grow] at g <;> rfl
  cases d with
  | keep n =>
    cases n with
    | zero => simp [Dd.ok] at ok
    | succ n =>
      rw [Dd.units, List.replicate_succ, List.foldl_cons, start .k rfl, fold_more _ _ _ (fun u hu => ?_)]
      · simp only [one]; rw [fold_k]; congr 3; omega
      · rw [List.eq_of_mem_replicate hu]; exact ⟨_, rfl⟩
  | drop n =>
    cases n with
    | zero => simp [Dd.ok] at ok
    | succ n =>
      rw [Dd.units, List.replicate_succ, List.foldl_cons, start .d rfl, fold_more _ _ _ (fun u hu => ?_)]
      · simp only [one]; rw [fold_d]; congr 3; omega
      · rw [List.eq_of_mem_replicate hu]; exact ⟨_, rfl⟩
  | put xs =>
    cases xs with
    | nil => simp [Dd.ok] at ok
    | cons x xs =>
      rw [Dd.units, List.map_cons, List.foldl_cons, start (.p x) rfl, fold_more _ _ _ (fun u hu => ?_)]
      · simp only [one]; rw [fold_p]; rfl
      · obtain ⟨y, _, rfl⟩ := List.mem_map.mp hu; exact ⟨_, rfl⟩
theorem fold_proper : ∀ (E D : Delta), Proper E → (∀ d e, D.getLast? = some d → E.head? = some e → d.kind ≠ e.kind) → (unitsD E).foldl push D = D ++ E
  | [], D, _, _ => by simp [unitsD]
  | d :: r, D, h, hl => by
    rw [unitsD_cons, List.foldl_append, fold_deed D d h.head (fun e he => hl e d he rfl), fold_proper r _ h.tail]
    · simp
    · intro x e hx he
      simp at hx
      subst hx
      cases r with
      | nil => cases he
      | cons f r => cases he; exact h.2.1
theorem packed_id {D : Delta} (h : Proper D) : packed (unitsD D) = D := by
  unfold packed
  rw [fold_proper D [] h (fun d e hd => by cases hd)]
  rfl
def made : List Un → List Int → List Int
  | [], _ => []
  | .p x :: us, l => x :: made us l
  | .k :: us, a :: l => a :: made us l
  | .k :: us, [] => made us []
  | .d :: us, _ :: l => made us l
  | .d :: us, [] => made us []
def Dd.made (l : List Int) : Dd → List Int
  | .keep n => l.take n
  | .drop _ => []
  | .put xs => xs
def Dd.back (l : List Int) : Dd → Dd
  | .keep n => .keep n
  | .drop n => .put (l.take n)
  | .put xs => .drop xs.length
theorem units_pos {d : Dd} (ok : d.ok) : 1 ≤ d.units.length := by
  cases d with
  | keep n => simpa [Dd.units, Dd.ok] using ok
  | drop n => simpa [Dd.units, Dd.ok] using ok
  | put xs =>
    simp only [Dd.units, List.length_map]
    exact List.length_pos_iff.mpr ok
theorem lenUnits : ∀ {D : Delta}, AllOk D → D.length ≤ (unitsD D).length
  | [], _ => Nat.le_refl _
  | d :: D, h => by
    rw [unitsD_cons, List.length_append, List.length_cons]
    have := units_pos (h d List.mem_cons_self)
    have := lenUnits (D := D) fun x hx => h x (List.mem_cons_of_mem _ hx)
    omega
def LetU (us : List Un) : Prop := ∀ x, Un.p x ∈ us → LetOk x
def LetL (l : List Int) : Prop := ∀ x ∈ l, LetOk x
theorem tx_sml {n : Nat} {xs : List Int} (h : LetL xs) : Sml (n + 1) (tx xs) := by
  rw [tx, Sml]
  refine Smls.all fun v hv => ?_
  obtain ⟨x, hx, rfl⟩ := List.mem_map.mp hv
  have := h x hx
  rw [Sml]
  unfold LetOk at this
  omega
theorem tx_w (xs : List Int) : wE (tx xs) = 42 * xs.length := by
  rw [tx, wE]
  induction xs with
  | nil => rfl
  | cons x xs ih => rw [List.map_cons, wEs, ih, wE, List.length_cons]; omega
theorem deed_sml {n : Nat} {d : Dd} (ok : d.units.length ≤ 100000) (hl : LetU d.units) : Sml (n + 2) d.e := by
  cases d with
  | keep n =>
    simp only [Dd.units, List.length_replicate] at ok
    simp only [Dd.e, Sml, Smls]
    exact ⟨by simp [sKeep], by omega, trivial⟩
  | drop n =>
    simp only [Dd.units, List.length_replicate] at ok
    simp only [Dd.e, Sml, Smls]
    exact ⟨by simp [sDrop], by omega, trivial⟩
  | put xs =>
    rw [Dd.e, Sml, Smls, Smls, Smls]
    exact ⟨by rw [Sml]; simp [sPut], tx_sml fun x hx => hl x (by simp [Dd.units]; exact hx), trivial⟩
theorem deed_w {d : Dd} (ok : d.ok) : wE d.e + 1 ≤ 100 * d.units.length := by
  have := units_pos ok
  cases d with
  | keep n => simp only [Dd.e, wE, wEs, sKeep, List.length_cons, List.length_nil]; omega
  | drop n => simp only [Dd.e, wE, wEs, sDrop, List.length_cons, List.length_nil]; omega
  | put xs =>
    simp only [Dd.units, List.length_map] at this ⊢
    rw [Dd.e, wE, wEs, wEs, wEs, tx_w, wE]
    simp only [sPut, List.length_cons, List.length_nil]
    omega
theorem delta_w : ∀ {D : Delta}, AllOk D → wEs (D.map Dd.e) ≤ 100 * (unitsD D).length
  | [], _ => Nat.zero_le _
  | d :: D, h => by
    rw [List.map_cons, wEs, unitsD_cons, List.length_append]
    have := deed_w (h d List.mem_cons_self)
    have := delta_w (D := D) fun x hx => h x (List.mem_cons_of_mem _ hx)
    omega
theorem mem_units {D : Delta} {d : Dd} (h : d ∈ D) : d.units.length ≤ (unitsD D).length ∧ ∀ u ∈ d.units, u ∈ unitsD D := by
  induction D with
  | nil => cases h
  | cons e D ih =>
    rw [unitsD_cons, List.length_append]
    rcases List.mem_cons.mp h with rfl | h
    · exact ⟨by omega, fun u hu => List.mem_append_left _ hu⟩
    · have := ih h
      exact ⟨by omega, fun u hu => List.mem_append_right _ (this.2 u hu)⟩
theorem delta_ds {n : Nat} {h : EH} {D : Delta} (ok : AllOk D) (hn : (unitsD D).length ≤ 10000) (hl : LetU (unitsD D)) : DSs h (n + 2) 1000000 (D.map Dd.e) (pds (D.map Dd.e)) := by
  refine (Smls.ds (n + 2) (D.map Dd.e) (Smls.all fun v hv => ?_)).more (Nat.le_trans (delta_w ok) (by omega))
  obtain ⟨d, hd, rfl⟩ := List.mem_map.mp hv
  have := mem_units hd
  exact deed_sml (by omega) fun x hx => hl x (this.2 _ hx)
end Y

namespace Y
open PySem PySem.Spec PyProof.Rows L2

structure DlAt (h : EH) (r : Nat) (D : Delta) : Prop where
  at_ : h[r]? = some (.lst (D.map Dd.e))
  ok : AllOk D
  len : (unitsD D).length ≤ 1000
  lt : LetU (unitsD D)
theorem DlAt.keep {h h' : EH} {r : Nat} {D : Delta} (z : DlAt h r D) (k : Keep no1 h h') : DlAt h' r D := ⟨k.at z.at_, z.ok, z.len, z.lt⟩
theorem DlAt.dl {h : EH} {r : Nat} {D : Delta} (z : DlAt h r D) : D.length ≤ 1000 := Nat.le_trans (lenUnits z.ok) z.len
theorem DlAt.ds {n : Nat} {h : EH} {r : Nat} {D : Delta} (z : DlAt h r D) : DS h (n + 3) 1000000 (.ref r) (.list (pds (D.map Dd.e))) := DS.lst z.at_ (delta_ds z.ok (Nat.le_trans z.len (by decide)) z.lt)
def Un.chr : Un → Nat
  | .k => 107
  | .d => 100
  | .p _ => 112
def putsU (us : List Un) : List Int := us.filterMap fun u => match u with
  | .p x => some x
  | _ => none
def Dd.word : Dd → List Nat
  | .keep _ => sKeep
  | .drop _ => sDrop
  | .put _ => sPut
def Dd.what : Dd → EV
  | .keep n => .int n
  | .drop n => .int n
  | .put xs => tx xs
theorem Dd.e_eq (d : Dd) : d.e = .tup [.str d.word, d.what] := by cases d <;> rfl
theorem word_put (d : Dd) : decide (d.word = [112, 117, 116]) = decide (d.kind = 2) := by cases d <;> rfl
theorem repN_1 (n : Nat) (c : Nat) : repN (n : Int) [c] = List.replicate n c := by
  unfold repN
  simp [List.flatten_replicate_singleton]
def Dd.chr : Dd → Nat
  | .keep _ => 107
  | .drop _ => 100
  | .put _ => 112
end Y

namespace Y
open PySem PySem.Spec PyProof.Rows L2

theorem putsU_app (a b : List Un) : putsU (a ++ b) = putsU a ++ putsU b := by simp [putsU]
end Y

namespace Y
open PySem PySem.Spec PyProof.Rows L2

theorem loop_on {α : Type} (f : α → EV) {g : EH → Prop} {p : Pat} {tb : LS} {D : LEnds} (xs : List α) (I : List α → List α → En → EH → Prop)
    (stop : ∀ env h, I xs [] env h → g h ∧ D.nx env h)
    (turn : ∀ a x b env h (k : En → EH → Prop), xs = a ++ x :: b → I a (x :: b) env h → (∀ env' h', I (a ++ [x]) b env' h' → k env' h') → g h ∧ lBind h p (f x) env fun env2 => tb { D with nx := k, ct := k, bk := D.nx } env2 h) :
    ∀ env h, I [] xs env h → loopE g p tb D (xs.map f) env h := by
  intro env h i0
  refine loop_ind (fun left env h => ∃ a b, xs = a ++ b ∧ left = b.map f ∧ I a b env h) ?_ ?_ _ _ _ ⟨[], xs, rfl, rfl, i0⟩
  · rintro env h ⟨a, b, e, el, i⟩
    obtain rfl : b = [] := by simpa using el.symm
    rw [List.append_nil] at e
    subst e
    exact stop env h i
  · rintro x left env h k ⟨a, b, e, el, i⟩ hk
    obtain ⟨y, b, rfl⟩ : ∃ c r, b = c :: r := by
      cases b with
      | nil => simp at el
      | cons c r => exact ⟨c, r, rfl⟩
    rw [List.map_cons, List.cons.injEq] at el
    obtain ⟨rfl, rfl⟩ := el
    exact turn a y b env h k e i fun env' h' i' => hk env' h' ⟨_, _, by rw [e]; simp, rfl, i'⟩
theorem loop_num {α : Type} (f : α → EV) {g : EH → Prop} {p : Pat} {tb : LS} {D : LEnds} (xs : List α) (I : List α → List α → En → EH → Prop)
    (stop : ∀ env h, I xs [] env h → g h ∧ D.nx env h)
    (turn : ∀ a x b env h (k : En → EH → Prop), xs = a ++ x :: b → I a (x :: b) env h → (∀ env' h', I (a ++ [x]) b env' h' → k env' h') → g h ∧ lBind h p (.tup [.int (a.length : Nat), f x]) env fun env2 => tb { D with nx := k, ct := k, bk := D.nx } env2 h) :
    ∀ env h, I [] xs env h → loopE g p tb D (numE (xs.map f) 0) env h := by
  intro env h i0
  refine loop_ind (fun left env h => ∃ a b, xs = a ++ b ∧ left = (numE (xs.map f) 0).drop a.length ∧ I a b env h) ?_ ?_ _ _ _ ⟨[], xs, rfl, rfl, i0⟩
  · rintro env h ⟨a, b, e, el, i⟩
    have hb : b = [] := by
      have := congrArg List.length el
      rw [e] at this
      simp [numE] at this
      exact List.length_eq_zero_iff.mp (by omega)
    subst hb
    rw [List.append_nil] at e
    subst e
    exact stop env h i
  · rintro x left env h k ⟨a, b, e, el, i⟩ hk
    have hal : a.length < (numE (xs.map f) 0).length := by
      have := congrArg List.length el
      simp at this; omega
    have hb : b ≠ [] := by
      rintro rfl
      rw [e] at hal
      simp [numE] at hal
    obtain ⟨y, b, rfl⟩ : ∃ c r, b = c :: r := by
      cases b with
      | nil => exact absurd rfl hb
      | cons c r => exact ⟨c, r, rfl⟩
    rw [List.drop_eq_getElem_cons hal, List.cons.injEq] at el
    obtain ⟨ex, rfl⟩ := el
    have hx : x = .tup [.int (a.length : Nat), f y] := by
      have h1 : (numE (xs.map f) 0)[a.length]? = some x := by rw [List.getElem?_eq_getElem hal, ex]
      obtain ⟨z, hz, rfl⟩ := numE_at h1
      rw [e, List.getElem?_map] at hz
      simp at hz
      rw [← hz]; simp
    subst hx
    exact turn a y b env h k e i fun env' h' i' => hk env' h' ⟨_, _, by rw [e]; simp, by simp, i'⟩
theorem lc_keep {α : Type} (f : α → EV) (y : α → Option EV) {g : EH → Prop} {p : Pat} {tt : LTt} {te : LT} {env : En} {P : EK} {h : EH} (xs : List α) (hl : xs.length ≤ 1000000) (hg : ∀ h', Keep no1 h h' → g h')
    (step : ∀ x ∈ xs, ∀ h' (ky : EK) (kn : EH → Prop), Keep no1 h h' → (∀ v, y x = some v → ∀ h2, Keep no1 h' h2 → ky v h2) → (y x = none → ∀ h2, Keep no1 h' h2 → kn h2) → lBind h' p (f x) env fun env2 => tt env2 h' fun b h3 => if b = true then te env2 h3 ky else kn h3)
    (fin : ∀ h', Keep no1 h h' → h'[h.length]? = some (.lst (xs.filterMap y)) → P (.ref h.length) h') : lcE g p tt te h.length env P (xs.map f) (h ++ [.lst []]) := by
  refine lc_ind (fun left acc h' => ∃ a b, xs = a ++ b ∧ left = b.map f ∧ acc = a.filterMap y ∧ Keep no1 h h') ?_ ?_ _ _ _ new_at ⟨[], xs, rfl, rfl, rfl, Keep.app _⟩
  · rintro acc h' ⟨a, b, e, el, rfl, k⟩ ea
    obtain rfl : b = [] := by simpa using el.symm
    rw [List.append_nil] at e
    subst e
    exact ⟨hg _ k, fin _ k ea⟩
  · rintro x left acc h' ky kn ⟨a, b, e, el, rfl, k⟩ ea hy hn
    obtain ⟨z, b, rfl⟩ : ∃ c r, b = c :: r := by
      cases b with
      | nil => simp at el
      | cons c r => exact ⟨c, r, rfl⟩
    rw [List.map_cons, List.cons.injEq] at el
    obtain ⟨rfl, rfl⟩ := el
    refine ⟨hg _ k, step z (by rw [e]; simp) h' ky kn k (fun v hv h2 k2 => ?_) fun hv h2 k2 => ?_⟩
    · refine hy v h2 (k2.at ea) ?_ ⟨a ++ [z], b, by rw [e]; simp, rfl, by simp [hv], (k.trans k2).fresh (Nat.le_refl _)⟩
      have := List.length_filterMap_le y a
      have hx : xs.length = a.length + (b.length + 1) := by rw [e]; simp
      have sz : sizeLine = 16777216 := by decide
      omega
    · exact hn h2 (k2.at ea) ⟨a ++ [z], b, by rw [e]; simp, rfl, by simp [hv], k.trans k2⟩
theorem cut_mid {α : Type} (xs : List α) (a n : Nat) : cut xs (some (a : Int)) (some ((a : Int) + (n : Int))) = (xs.drop a).take n := by
  rw [show (a : Int) + (n : Int) = ((a + n : Nat) : Int) by omega]
  unfold cut
  rw [HT.sIx_nat, HT.sIx_nat]
  by_cases ha : a ≤ xs.length
  · rw [Nat.min_eq_left ha]
    by_cases hb : a + n ≤ xs.length
    · rw [Nat.min_eq_left hb, Nat.add_sub_cancel_left]
    · rw [Nat.min_eq_right (by omega), List.take_of_length_le (by simp), List.take_of_length_le (by simp; omega)]
  · rw [Nat.min_eq_right (show xs.length ≤ a by omega), List.drop_length, List.drop_eq_nil_of_le (by omega)]
    simp
end Y

namespace Y
open PySem PySem.Spec PyProof.Rows L2

theorem Told.app {h : EH} {o : List EO} {xs : List EV} {Q : EK} (q : Told h xs Q) : Told (h ++ o) xs Q := fun r h' k hr e => q r h' ((Keep.app _).trans k) (by simp at hr; omega) e
theorem Told.keep {h h1 : EH} {xs : List EV} {Q : EK} (q : Told h xs Q) (k1 : Keep no1 h h1) : Told h1 xs Q := fun r h' k hr e => q r h' (k1.trans k) (by have := k1.1; omega) e
def putS (t : Tab) (q : Dd × List Int) : Option Int := if q.1.kind = 2 then some ((q.2.map fun x => (cost t x).2).sum) else none
end Y

namespace Y
open PySem PySem.Spec PyProof.Rows L2

def Un.word : Un → List Nat
  | .k => sKeep
  | .d => sDrop
  | .p _ => sPut
def Un.more : Un → EV
  | .p x => tx [x]
  | _ => .int 1
theorem one_e (u : Un) : (one u).e = .tup [.str u.word, u.more] := by cases u <;> rfl
def deedD (d : Dd) : PyData := .tuple [.str (S d.word), match d with
  | .keep n => .int n
  | .drop n => .int n
  | .put xs => .tuple (xs.map PyData.int)]
theorem dats_ints {h : EH} {n : Nat} : ∀ l : List Int, Dats h n (l.map EV.int) (l.map PyData.int)
  | [] => .nil
  | x :: l => .cons (.int x) (dats_ints l)
theorem deed_dat {h : EH} {n : Nat} (d : Dd) : Dat h (n + 2) d.e (deedD d) := by
  cases d with
  | keep m => exact .tup (.cons (.str _) (.cons (.int _) .nil))
  | drop m => exact .tup (.cons (.str _) (.cons (.int _) .nil))
  | put xs => exact .tup (.cons (.str _) (.cons (.tup (dats_ints xs)) .nil))
theorem deeds_dats {h : EH} {n : Nat} : ∀ D : Delta, Dats h (n + 2) (D.map Dd.e) (D.map deedD)
  | [] => .nil
  | d :: D => .cons (deed_dat d) (deeds_dats D)
theorem eqE_nilD {n : Bool} {a b : Nat} {D : Delta} {h : EH} {P : EK} (e : h[a]? = some (.lst (D.map Dd.e))) (e2 : h[b]? = some (.lst [])) (p : P (.bl (n ^^ decide (D = []))) h) : eqE n (.ref a) (.ref b) h P := by
  unfold eqE
  refine ⟨.list (D.map deedD), .list [], .lst e (deeds_dats D), .lst e2 .nil, ?_⟩
  have e3 : PyData.eqv (.list (D.map deedD)) (.list []) = decide (D = []) := by
    cases D <;> simp [PyData.eqv, PyData.eqvAll]
  rw [e3]
  exact p
theorem word_one (d : Dd) (u : Un) : decide (d.word = u.word) = (grow d u).isSome := by
  cases d <;> cases u <;> simp [Dd.word, Un.word, grow, sKeep, sDrop, sPut]
theorem grow_e {d e : Dd} {u : Un} (g : grow d u = some e) (hl : d.units.length < 10000) : e.word = u.word ∧ ∀ (P : EK) (h : EH), P e.what h → addE d.what u.more h P := by
  cases d <;> cases u <;> simp [grow] at g <;> subst g
  · exact ⟨rfl, fun P h p => by simpa [addE, Dd.what, Un.more] using p⟩
  · exact ⟨rfl, fun P h p => by simpa [addE, Dd.what, Un.more] using p⟩
  · refine ⟨rfl, fun P h p => ?_⟩
    simp only [Dd.units, List.length_map] at hl
    have sz : sizeLine = 16777216 := by decide
    simp only [addE, Dd.what, Un.more, tx, List.length_map, List.map_cons, List.map_nil, List.length_cons, List.length_nil]
    refine ⟨by omega, ?_⟩
    simpa [Dd.what, tx] using p
theorem pushs_last (us : List Un) (u : Un) : packed (us ++ [u]) = push (packed us) u := by simp [packed]
theorem packed_len (us : List Un) : (packed us).length ≤ us.length := by
  have := lenUnits (packed_proper us).all
  rwa [packed_units] at this
def sp__law_packed (ad : Ad) : LSp := fun evs h Q => ∃ (r : Nat) (us : List Un), evs = [.ref r] ∧ h[r]? = some (.lst (us.map Un.e)) ∧ us.length ≤ 9000 ∧ Told h ((packed us).map Dd.e) Q
abbrev N__law_packed : List Str := ["_law_units_here", "_law_words", "_law_found", "_law_unit", "_law_word", "_law_more"]
def t__law_packed (ad : Ad) : LS :=
    lSeq (lPar 1 2 (lCons (lDisp [((lC (.str [107])), (lC (.str [107, 101, 101, 112]))), ((lC (.str [100])), (lC (.str [100, 114, 111, 112]))), ((lC (.str [112])), (lC (.str [112, 117, 116])))]) (lCons (lLst (lNil)) (lNil)))) <|
    lSeq (lFor (lIt (lVar 0)) (.nm 3)
      (lSeq (lPar 4 5 (lCons (lOp ixA (lVar 1) (lOp ixA (lVar 3) (lC (.int 0)))) (lCons (lIf (lB (lOp (eqE false) (lOp ixA (lVar 3) (lC (.int 0))) (lC (.str [112])))) (lSl (lVar 3) (lPart (some (lC (.int 1)))) (lPart none)) (lC (.int 1))) (lNil)))) <|
    lIfS (lAnd (lB (lOp (eqE true) (lVar 2) (lLst (lNil)))) (lB (lOp (eqE false) (lOp ixA (lOp ixA (lVar 2) (lNeg (lC (.int 1)))) (lC (.int 0))) (lVar 4))))
      (lSetA (lVar 2) (lNeg (lC (.int 1))) (lTup (lCons (lVar 4) (lCons (lOp addE (lOp ixA (lOp ixA (lVar 2) (lNeg (lC (.int 1)))) (lC (.int 1))) (lVar 5)) (lNil)))))
      (lDrop (lBM "list" appendE (lVar 2) (lCons (lTup (lCons (lVar 4) (lCons (lVar 5) (lNil)))) (lNil)))))) <|
    lRet (lVar 2)
theorem len__law_packed (ad : Ad) (evs : List EV) (h : EH) (Q : EK) (q : sp__law_packed ad evs h Q) : evs.length = ["_law_units_here"].length := by
  obtain ⟨_, _, rfl, _⟩ := q; rfl
def wKV : List (EV × EV) := [(.str [107], .str sKeep), (.str [100], .str sDrop), (.str [112], .str sPut)]
theorem wKV_get (u : Un) : dGet wKV (.str [u.chr]) = some (.str u.word) := by cases u <;> rfl
theorem un_0 (u : Un) {h : EH} {P : EK} (p : P (.str [u.chr]) h) : ixA u.e (.int 0) h P := by
  cases u <;> exact ia_t (by rfl) p
theorem set_last {D : Delta} {d e : Dd} {r : Nat} {h : EH} {P : EH → Prop} (a : h[r]? = some (.lst ((D ++ [d]).map Dd.e))) (p : P (h.set r (.lst ((D ++ [e]).map Dd.e)))) : setA (.ref r) (.int (-1)) e.e h P := by
  unfold setA
  simp only [a]
  unfold setE
  simp only [a]
  have e1 : ((D ++ [d]).map Dd.e).length = D.length + 1 := by simp
  have e2 : ixN (D.length + 1) (-1) = some D.length := by
    unfold ixN
    rw [if_neg (by omega), if_pos (by omega)]
    congr 1
    omega
  rw [e1, e2]
  have e3 : ((D ++ [d]).map Dd.e).set D.length e.e = (D ++ [e]).map Dd.e := by simp
  simp only [e3]
  exact p
theorem pure__law_packed (ad : Ad) (evs : List EV) (h : EH) (Q : EK) (q : sp__law_packed ad evs h Q) : t__law_packed ad (endsOf Q) (startE N__law_packed evs) h := by
  obtain ⟨r, us, rfl, e, hl, q⟩ := q
  show t__law_packed ad (endsOf Q) [some (.ref r), none, none, none, none, none] h
  unfold t__law_packed
  rw [lSeq, lPar]
  simp only [lSet, lRet, lRetN, lDrop, lOp, lVar, lC, lB, lT, lAnd, lOr, lNot, lIf, lAndV, lOrV, lNotV, lNil, lCons, lTup, lLst, lCB, lBM, lSl, lPart, lNext, lIt, lRng1, lRng2, lAsg, lPar, lSetI, lSetA, lAugS, lLc, lZip, lNeg, lCall, lChain, List.getElem?_cons_zero, List.getElem?_cons_succ, List.set_cons_zero, List.set_cons_succ, wipeE, intP, intE, lDisp, lPairs, List.length_nil]
  refine ⟨new_at, ?_, by decide, ?_⟩
  · intro p hp
    simp only [List.mem_cons, List.not_mem_nil, or_false] at hp
    rcases hp with rfl | rfl | rfl <;> trivial
  rw [new_set]
  refine ⟨by simp [sizeL], ?_⟩
  rw [show dAll _ = wKV from rfl]
  try dsimp only
  rw [lSeq, lFor]
  simp only [lSet, lRet, lRetN, lDrop, lOp, lVar, lC, lB, lT, lAnd, lOr, lNot, lIf, lAndV, lOrV, lNotV, lNil, lCons, lTup, lLst, lCB, lBM, lSl, lPart, lNext, lIt, lRng1, lRng2, lAsg, lPar, lSetI, lSetA, lAugS, lLc, lZip, lNeg, lCall, lChain, List.getElem?_cons_zero, List.getElem?_cons_succ, List.set_cons_zero, List.set_cons_succ, wipeE, intP, intE, srcE, app_at (app_at e _)]
  have sz : sizeLine = 16777216 := by decide
  refine loop_on Un.e us (fun a b env h' => ∃ (x3 x4 x5 : Option EV), env = [some (.ref r), some (.ref h.length), some (.ref (h ++ [EO.dic wKV]).length), x3, x4, x5] ∧ Keep no1 h h' ∧ h'[h.length]? = some (.dic wKV) ∧ h'[(h ++ [EO.dic wKV]).length]? = some (.lst ((packed a).map Dd.e))) ?_ ?_ _ _ ⟨_, _, _, rfl, (Keep.app _).trans (Keep.app _), app_at new_at _, new_at⟩
  · rintro env h' ⟨x3, x4, x5, rfl, k, ed, ef⟩
    refine ⟨k.at e, ?_⟩
    simp only [lSet, lRet, lRetN, lDrop, lOp, lVar, lC, lB, lT, lAnd, lOr, lNot, lIf, lAndV, lOrV, lNotV, lNil, lCons, lTup, lLst, lCB, lBM, lSl, lPart, lNext, lIt, lRng1, lRng2, lAsg, lPar, lSetI, lSetA, lAugS, lLc, lZip, lNeg, lCall, lChain, List.getElem?_cons_zero, List.getElem?_cons_succ, List.set_cons_zero, List.set_cons_succ, wipeE, intP, intE]
    exact q _ _ k (by simp) ef
  · rintro a u b env h' kk eD ⟨x3, x4, x5, rfl, k, ed, ef⟩ hk
    refine ⟨k.at e, bind_nm ?_⟩
    simp only [List.set_cons_zero, List.set_cons_succ]
    have hal : a.length < 9000 := by
      rw [eD, List.length_append, List.length_cons] at hl
      omega
    have hpl := packed_len a
    have hD := packed_proper a
    rw [lSeq, lPar]
    simp only [lSet, lRet, lRetN, lDrop, lOp, lVar, lC, lB, lT, lAnd, lOr, lNot, lIf, lAndV, lOrV, lNotV, lNil, lCons, lTup, lLst, lCB, lBM, lSl, lPart, lNext, lIt, lRng1, lRng2, lAsg, lPar, lSetI, lSetA, lAugS, lLc, lZip, lNeg, lCall, lChain, List.getElem?_cons_zero, List.getElem?_cons_succ, List.set_cons_zero, List.set_cons_succ, wipeE, intP, intE]
    refine un_0 u (ia_d ed trivial (wKV_get u) (un_0 u (eq_s ?_)))
    have more : ∀ (P : EK), P u.more h' → (if (false ^^ decide ([u.chr] = [112])) = true then slE u.e (some 1) none h' P else P (.int 1) h') := by
      intro P p
      cases u with
      | k => simpa [Un.chr, Un.more] using p
      | d => simpa [Un.chr, Un.more] using p
      | p x =>
        simp only [Un.chr, decide_true, Bool.false_xor, if_true, slE, Un.e]
        rw [show (some (1 : Int)) = some ((1 : Nat) : Int) from rfl, cut_from]
        exact p
    refine more _ ?_
    try dsimp only
    rw [lIfS]
    simp only [lSet, lRet, lRetN, lDrop, lOp, lVar, lC, lB, lT, lAnd, lOr, lNot, lIf, lAndV, lOrV, lNotV, lNil, lCons, lTup, lLst, lCB, lBM, lSl, lPart, lNext, lIt, lRng1, lRng2, lAsg, lPar, lSetI, lSetA, lAugS, lLc, lZip, lNeg, lCall, lChain, List.getElem?_cons_zero, List.getElem?_cons_succ, List.set_cons_zero, List.set_cons_succ, wipeE, intP, intE, List.length_nil]
    refine ⟨by simp [sizeL], ?_⟩
    refine eqE_nilD (app_at ef _) new_at ?_
    have k1 : Keep no1 h (h' ++ [EO.lst []]) := k.trans (Keep.app _)
    have ed1 := app_at ed [EO.lst []]
    have ef1 := app_at ef [EO.lst []]
    have fin : ∀ (x : EO), x = .lst ((packed (a ++ [u])).map Dd.e) → kk [some (.ref r), some (.ref h.length), some (.ref (h ++ [EO.dic wKV]).length), some u.e, some (.str u.word), some u.more] ((h' ++ [EO.lst []]).set (h ++ [EO.dic wKV]).length x) := by
      rintro x rfl
      exact hk _ _ ⟨_, _, _, rfl, k1.fresh (by simp), set_off ed1 (by simp), set_at ef1⟩
    have put1 : ∀ (D : Delta), push (packed a) u = D ++ [one u] → D = packed a → (isTy "list" (.ref (h ++ [EO.dic wKV]).length) (h' ++ [EO.lst []]) ∧ [EV.str u.word, u.more].length ≤ sizeLine ∧ appendE (.ref (h ++ [EO.dic wKV]).length) [.tup [.str u.word, u.more]] (h' ++ [EO.lst []]) fun _ h1 => kk [some (.ref r), some (.ref h.length), some (.ref (h ++ [EO.dic wKV]).length), some u.e, some (.str u.word), some u.more] h1) := by
      rintro D eP rfl
      refine ⟨isTy_l ef1, by simp [sizeL], app_f ef1 (by rw [List.length_map]; omega) ?_⟩
      refine fin _ ?_
      rw [pushs_last, eP, List.map_append, List.map_cons, List.map_nil, one_e]
    rcases List.eq_nil_or_concat (packed a) with en | ⟨D, d, en⟩
    · rw [en]
      simp only [decide_true, Bool.xor_self, Bool.false_eq_true, if_false]
      exact put1 [] (by rw [en]; rfl) en.symm
    · rw [List.concat_eq_append] at en
      have ne : packed a ≠ [] := by rw [en]; simp
      simp only [ne, decide_false, Bool.xor_false, if_true]
      have ef2 := ef1
      rw [en, List.map_append, List.map_cons, List.map_nil] at ef2
      have atl : ∀ P : EK, P d.e (h' ++ [EO.lst []]) → ixA (.ref (h ++ [EO.dic wKV]).length) (.int (-1)) (h' ++ [EO.lst []]) P := fun P p => ia_l ef2 (atm1 _ _) p
      refine atl _ ?_
      rw [Dd.e_eq]
      refine ia_t (x := .str d.word) rfl (eq_s ?_)
      rw [word_one]
      cases g : grow d u with
      | none =>
        simp only [Option.isSome_none, Bool.false_xor, Bool.false_eq_true, if_false]
        refine put1 (D ++ [d]) ?_ en.symm
        rw [en, push_last, g]
        simp
      | some z =>
        simp only [Option.isSome_some, Bool.false_xor, if_true]
        have hdl : d.units.length < 10000 := by
          have := (mem_units (show d ∈ packed a by rw [en]; simp)).1
          rw [packed_units] at this
          omega
        obtain ⟨g1, g2⟩ := grow_e g hdl
        refine atl _ ?_
        rw [Dd.e_eq]
        refine ia_t (x := d.what) rfl (g2 _ _ ?_)
        refine ⟨by simp [sizeL], ?_⟩
        have ez : EV.tup [.str u.word, z.what] = z.e := by rw [← g1, ← Dd.e_eq]
        rw [ez]
        refine set_last (D := D) (d := d) (by rw [ef1, en]) ?_
        refine fin _ ?_
        rw [pushs_last, en, push_last, g]
end Y

namespace Y
open PySem PySem.Spec PyProof.Rows L2

def Un.w : Un → Nat
  | .p _ => 0
  | _ => 1
end Y

namespace Y
open PySem PySem.Spec PyProof.Rows L2

end Y

namespace Y
open PySem PySem.Spec PyProof.Rows L2

end Y

namespace Y
open PySem PySem.Spec PyProof.Rows L2

theorem RowsAt.off {h : EH} {b t r n m q : Nat} {R : Tbl} {o : EO} (z : RowsAt h b t r n m R) (hq : t ≤ q) : RowsAt (h.set q o) b t r n m R := by
  obtain ⟨rs, e, l, nd, nr, br, bq, z⟩ := z
  exact ⟨rs, set_off e (by omega), l, nd, nr, br, bq, fun i x hx => set_off (z i x hx) (by have := bq x (List.mem_of_getElem? hx); omega)⟩
theorem RowsAt.last {h : EH} {b t r n m : Nat} {R : Tbl} (z : RowsAt h b t r n m R) : ∃ q xs, h[r]? = some (.lst xs) ∧ atI xs (-1) = some (.ref q) ∧ xs.length = n + 1 ∧ (b ≤ q ∧ q < t) ∧ q ≠ r ∧ h[q]? = some (.lst (rowE m (R n))) ∧ atI (rowE m (R n)) (-1) = some (optE (R n m)) := by
  obtain ⟨q, xs, ex, ax, lx, bq, ne, zx⟩ := z.row (Nat.le_refl n)
  refine ⟨q, xs, ex, ?_, lx, bq, ne, zx, ?_⟩
  · rw [← atI_last' (n := n) lx]; exact (atI_n _ _).trans ax
  · rw [← atI_last' (n := m) (rowE_len _ _)]; exact (atI_n _ _).trans (rowE_at (Nat.le_refl _))
theorem alike_ok {ad : Ad} {v w : EV} {d : PyData} {n k : Nat} {h : EH} {Q : EK} (a : DS h n k v d) (b : DS h n k w d) (hn : n ≤ 60) (hk : k ≤ 2 ^ 20) (q : Q (.bl true) h) : sp__law_alike ad [v, w] h Q := ⟨v, w, d, rfl, Dat.deep a.1 hn, Dat.deep b.1 hn, (a.fits hk).1, (a.fits hk).2, q⟩
theorem Keep.tab {b : Nat} {h h' : EH} {r : Nat} {kvs : List (EV × EV)} (k : Keep (is1 b) h h') (B : BagAt h b) (e : h[r]? = some (.dic kvs)) : h'[r]? = some (.dic kvs) := by
  refine k.other e ?_
  rintro rfl
  obtain ⟨c, x, y, z, ns, e1, _⟩ := B
  rw [e1] at e
  cases e
def WorldAt (h : EH) (W : Nat) (v : EV) : Prop := ∃ (q : Nat) (l r : List Int) (t : Nat) (c : Tab) (p : Prom), v = .ref q ∧ W < q ∧ h[q]? = some (.lst [tx l, tx r, .ref t, p.e]) ∧ h[t]? = some (.dic (tabKV c)) ∧ TabOk c ∧ c.length ≤ 40 ∧ l.length ≤ 9 ∧ r.length ≤ 9 ∧ PromNN p
theorem WorldAt.keepB {h h' : EH} {W b : Nat} {v : EV} (z : WorldAt h W v) (B : BagAt h b) (k : Keep (is1 b) h h') : WorldAt h' W v := by
  obtain ⟨q, l, r, t, c, p, e, lt, e1, e2, rest⟩ := z
  refine ⟨q, l, r, t, c, p, e, lt, k.other e1 ?_, k.tab B e2, rest⟩
  rintro rfl
  obtain ⟨c, x, y, z, ns, e3, _⟩ := B
  rw [e1] at e3
  cases e3
structure Pk (h0 : EH) (b W L : Nat) (ns : List Int) (h : EH) (ws : List EV) : Prop where
  k : Keep (is1 b) h0 h
  B : BagAt h b
  w : h[W]? = some (.lst ws)
  a : ∀ v ∈ ws, WorldAt h W v
  l : h[L]? = some (.lst (ns.map EV.int))
end Y

namespace Y
open PySem PySem.Spec PyProof.Rows L2

end Y

namespace Y
open PySem PySem.Spec PyProof.Rows L2

end Y

namespace Y
open PySem PySem.Spec PyProof.Rows L2

def oneE (u : Un) : EV := (one u).e
def sp_deeds_of (ad : Ad) : LSp := fun evs h Q => ∃ (us : List Un), evs = [.str (us.map Un.chr), tx (putsU us)] ∧ us.length ≤ 9000 ∧ Told h (us.map oneE) Q
abbrev N_deeds_of : List Str := ["steps", "text", "found", "at", "step"]
def t_deeds_of (ad : Ad) : LS :=
    lSeq (lPar 2 3 (lCons (lLst (lNil)) (lCons (lC (.int 0)) (lNil)))) <|
    lSeq (lFor (lIt (lVar 0)) (.nm 4)
      (lIfS (lB (lOp (kinE [([107], [107, 101, 101, 112]), ([100], [100, 114, 111, 112])] [[112]] ad.a_WORD_OF) (lVar 4) (lC (.adr ad.a_WORD_OF))))
      (lDrop (lBM "list" appendE (lVar 2) (lCons (lTup (lCons (lOp (kdE [([107], [107, 101, 101, 112]), ([100], [100, 114, 111, 112])] ad.a_WORD_OF) (lC (.adr ad.a_WORD_OF)) (lVar 4)) (lCons (lC (.int 1)) (lNil)))) (lNil))))
      (lSeq (lDrop (lBM "list" appendE (lVar 2) (lCons (lTup (lCons (lC (.str [112, 117, 116])) (lCons (lTup (lCons (lOp ixA (lVar 1) (lVar 3)) (lNil))) (lNil)))) (lNil)))) <|
    lAug (fun i j => i + j) 3 (lC (.int 1))))) <|
    lRet (lVar 2)
theorem len_deeds_of (ad : Ad) (evs : List EV) (h : EH) (Q : EK) (q : sp_deeds_of ad evs h Q) : evs.length = ["steps", "text"].length := by
  obtain ⟨_, rfl, _⟩ := q; rfl
theorem pure_deeds_of (ad : Ad) (evs : List EV) (h : EH) (Q : EK) (q : sp_deeds_of ad evs h Q) : t_deeds_of ad (endsOf Q) (startE N_deeds_of evs) h := by
  obtain ⟨us, rfl, hl, q⟩ := q
  show t_deeds_of ad (endsOf Q) [some (.str (us.map Un.chr)), some (tx (putsU us)), none, none, none] h
  unfold t_deeds_of
  have sz : sizeLine = 16777216 := by decide
  rw [lSeq, lPar]
  simp only [lSet, lRet, lRetN, lDrop, lOp, lVar, lC, lB, lT, lAnd, lOr, lNot, lIf, lAndV, lOrV, lNotV, lNil, lCons, lTup, lLst, lCB, lBM, lSl, lPart, lNext, lIt, lRng1, lRng2, lAsg, lPar, lSetI, lSetA, lAugS, lLc, lZip, lNeg, lCall, lChain, List.getElem?_cons_zero, List.getElem?_cons_succ, List.set_cons_zero, List.set_cons_succ, wipeE, intP, intE, List.length_nil]
  refine ⟨by simp [sizeL], ?_⟩
  try dsimp only
  rw [lSeq, lFor]
  simp only [lSet, lRet, lRetN, lDrop, lOp, lVar, lC, lB, lT, lAnd, lOr, lNot, lIf, lAndV, lOrV, lNotV, lNil, lCons, lTup, lLst, lCB, lBM, lSl, lPart, lNext, lIt, lRng1, lRng2, lAsg, lPar, lSetI, lSetA, lAugS, lLc, lZip, lNeg, lCall, lChain, List.getElem?_cons_zero, List.getElem?_cons_succ, List.set_cons_zero, List.set_cons_succ, wipeE, intP, intE, srcE, List.map_map]
  rw [show ((fun c => EV.str [c]) ∘ Un.chr) = fun u : Un => EV.str [u.chr] from rfl]
  refine loop_on (fun u : Un => EV.str [u.chr]) us (fun a b env h' => ∃ (x4 : Option EV), env = [some (.str (us.map Un.chr)), some (tx (putsU us)), some (.ref h.length), some (.int (putsU a).length), x4] ∧ Keep no1 h h' ∧ h'[h.length]? = some (.lst (a.map oneE))) ?_ ?_ _ _ ⟨_, rfl, Keep.app _, new_at⟩
  · rintro env h' ⟨x4, rfl, k, ef⟩
    refine ⟨trivial, ?_⟩
    simp only [lSet, lRet, lRetN, lDrop, lOp, lVar, lC, lB, lT, lAnd, lOr, lNot, lIf, lAndV, lOrV, lNotV, lNil, lCons, lTup, lLst, lCB, lBM, lSl, lPart, lNext, lIt, lRng1, lRng2, lAsg, lPar, lSetI, lSetA, lAugS, lLc, lZip, lNeg, lCall, lChain, List.getElem?_cons_zero, List.getElem?_cons_succ, List.set_cons_zero, List.set_cons_succ, wipeE, intP, intE]
    exact q _ _ k (Nat.le_refl _) ef
  · rintro a u b env h' kk eU ⟨x4, rfl, k, ef⟩ hk
    refine ⟨trivial, bind_nm ?_⟩
    simp only [List.set_cons_zero, List.set_cons_succ]
    have hal : a.length < 9000 := by
      rw [eU, List.length_append, List.length_cons] at hl
      omega
    have ap : ∀ (v : EV) (P : EK), P .non (h'.set h.length (.lst (a.map oneE ++ [v]))) → appendE (.ref h.length) [v] h' P := fun v P p => app_f ef (by rw [List.length_map]; omega) p
    rw [lIfS]
    simp only [lSet, lRet, lRetN, lDrop, lOp, lVar, lC, lB, lT, lAnd, lOr, lNot, lIf, lAndV, lOrV, lNotV, lNil, lCons, lTup, lLst, lCB, lBM, lSl, lPart, lNext, lIt, lRng1, lRng2, lAsg, lPar, lSetI, lSetA, lAugS, lLc, lZip, lNeg, lCall, lChain, List.getElem?_cons_zero, List.getElem?_cons_succ, List.set_cons_zero, List.set_cons_succ, wipeE, intP, intE, kinE]
    cases u with
    | k =>
      refine ⟨trivial, .inl ⟨⟨_, rfl⟩, ?_⟩⟩
      simp only [if_true, kdE]
      refine ⟨isTy_l ef, trivial, ?_⟩
      refine ⟨by simp [sizeL], ap _ _ ?_⟩
      exact hk _ _ ⟨some (.str [107]), by simp [putsU, Un.chr], k.fresh (Nat.le_refl _), by rw [set_at ef, List.map_append]; rfl⟩
    | d =>
      refine ⟨trivial, .inl ⟨⟨_, rfl⟩, ?_⟩⟩
      simp only [if_true, kdE]
      refine ⟨isTy_l ef, trivial, ?_⟩
      refine ⟨by simp [sizeL], ap _ _ ?_⟩
      exact hk _ _ ⟨some (.str [100]), by simp [putsU, Un.chr], k.fresh (Nat.le_refl _), by rw [set_at ef, List.map_append]; rfl⟩
    | p x =>
      refine ⟨trivial, .inr ⟨List.mem_cons_self, ?_⟩⟩
      simp only [Bool.false_eq_true, if_false]
      rw [lSeq, lDrop]
      simp only [lSet, lRet, lRetN, lDrop, lOp, lVar, lC, lB, lT, lAnd, lOr, lNot, lIf, lAndV, lOrV, lNotV, lNil, lCons, lTup, lLst, lCB, lBM, lSl, lPart, lNext, lIt, lRng1, lRng2, lAsg, lPar, lSetI, lSetA, lAugS, lLc, lZip, lNeg, lCall, lChain, List.getElem?_cons_zero, List.getElem?_cons_succ, List.set_cons_zero, List.set_cons_succ, wipeE, intP, intE]
      have ep : putsU us = putsU a ++ x :: putsU b := by rw [eU, putsU_app]; rfl
      refine ⟨isTy_l ef, ia_t (x := .int x) ((atI_n _ _).trans (by rw [ep]; simp)) ⟨by simp [sizeL], by simp [sizeL], ap _ _ ?_⟩⟩
      rw [lAug]
      simp only [lSet, lRet, lRetN, lDrop, lOp, lVar, lC, lB, lT, lAnd, lOr, lNot, lIf, lAndV, lOrV, lNotV, lNil, lCons, lTup, lLst, lCB, lBM, lSl, lPart, lNext, lIt, lRng1, lRng2, lAsg, lPar, lSetI, lSetA, lAugS, lLc, lZip, lNeg, lCall, lChain, List.getElem?_cons_zero, List.getElem?_cons_succ, List.set_cons_zero, List.set_cons_succ, wipeE, intP, intE]
      refine hk _ _ ⟨some (.str [112]), ?_, k.fresh (Nat.le_refl _), by rw [set_at ef, List.map_append]; rfl⟩
      rw [putsU_app]
      simp [putsU, Un.chr]
end Y

namespace Y
open PySem PySem.Spec PyProof.Rows L2

theorem eq_tx0 {n : Bool} {xs : List Int} {h : EH} {P : EK} (p : P (.bl (n ^^ decide (xs = []))) h) : eqE n (tx xs) (.tup []) h P := by
  unfold eqE
  refine ⟨.tuple (xs.map PyData.int), .tuple [], .tup (dats_ints xs), .tup .nil, ?_⟩
  have e3 : PyData.eqv (.tuple (xs.map PyData.int)) (.tuple []) = decide (xs = []) := by
    cases xs <;> simp [PyData.eqv, PyData.eqvAll]
  rw [e3]
  exact p
theorem word_kind (d e : Dd) : decide (d.word = e.word) = decide (d.kind = e.kind) := by cases d <;> cases e <;> rfl
end Y

namespace Y
open PySem PySem.Spec PyProof.Rows L2

def isD : Un → Bool
  | .d => true
  | _ => false
def mk (us : List Un) : Nat := (us.filter fun u => !isD u).length
theorem Keep.into {h hS h' : EH} {F : Nat} (k1 : Keep no1 h hS) (hF : h.length ≤ F) (k2 : Keep (is1 F) hS h') : Keep no1 h h' := ⟨Nat.le_trans k1.1 k2.1, fun r o e _ => k2.2 r o (k1.at e) (by
  have := lt_of_at e
  simp [is1]
  omega)⟩
end Y

namespace Y
open PySem PySem.Spec PyProof.Rows L2

end Y

namespace Y
open PySem PySem.Spec PyProof.Rows L2

def Parts (h : EH) : List Nat → List (List Un) → Prop
  | [], [] => True
  | q :: bs, p :: ps => h[q]? = some (.lst (p.map Un.e)) ∧ Parts h bs ps
  | _, _ => False
theorem Parts.len {h : EH} : ∀ {bs : List Nat} {ps : List (List Un)}, Parts h bs ps → bs.length = ps.length
  | [], [], _ => rfl
  | _ :: _, _ :: _, z => by simp [Parts.len z.2]
  | [], _ :: _, z => z.elim
  | _ :: _, [], z => z.elim
theorem Parts.split {h : EH} {p : List Un} : ∀ {bs : List Nat} {ps : List (List Un)}, Parts h bs (ps ++ [p]) → ∃ bs' q, bs = bs' ++ [q] ∧ Parts h bs' ps ∧ h[q]? = some (.lst (p.map Un.e))
  | [], [], z => z.elim
  | [q], [], z => ⟨[], q, rfl, trivial, z.1⟩
  | q :: r :: bs, [], z => z.2.elim
  | [], _ :: _, z => z.elim
  | q :: bs, p0 :: ps, z => by
    obtain ⟨bs', r, e, a, b⟩ := Parts.split z.2
    exact ⟨q :: bs', r, by rw [e]; rfl, ⟨z.1, a⟩, b⟩
theorem Parts.other {h h' : EH} : ∀ {bs : List Nat} {ps : List (List Un)}, Parts h bs ps → (∀ q ∈ bs, ∀ o, h[q]? = some o → h'[q]? = some o) → Parts h' bs ps
  | [], [], _, _ => trivial
  | q :: _, _ :: _, z, k => ⟨k q List.mem_cons_self _ z.1, Parts.other z.2 fun r hr => k r (List.mem_cons_of_mem _ hr)⟩
  | [], _ :: _, z, _ => z.elim
  | _ :: _, [], z, _ => z.elim
theorem Parts.keep {h h' : EH} {bs : List Nat} {ps : List (List Un)} (z : Parts h bs ps) (k : Keep no1 h h') : Parts h' bs ps := z.other fun _ _ _ e => k.at e
end Y

namespace Y
open PySem PySem.Spec PyProof.Rows L2

theorem Parts.lt {h : EH} : ∀ {bs : List Nat} {ps : List (List Un)}, Parts h bs ps → ∀ x ∈ bs, x < h.length
  | [], [], _, x, hx => by cases hx
  | q :: bs, p :: ps, z, x, hx => by
    rcases List.mem_cons.mp hx with rfl | hx
    · exact lt_of_at z.1
    · exact Parts.lt z.2 x hx
  | [], _ :: _, z, _, _ => z.elim
  | _ :: _, [], z, _, _ => z.elim
end Y

namespace Y
open PySem PySem.Spec PyProof.Rows L2

end Y

namespace Y
open PySem PySem.Spec PyProof.Rows L2

end Y

namespace Y
open PySem PySem.Spec PyProof.Rows L2

end Y

namespace Y
open PySem PySem.Spec PyProof.Rows L2

end Y

namespace Y
open PySem PySem.Spec PyProof.Rows L2

theorem tyE_keep {h h' : EH} {v : EV} {t : String} (k : Keep no1 h h') (e : tyE v h = some t) : tyE v h' = some t := by
  cases v <;> simp [tyE] at e ⊢ <;> try exact e
  rename_i r
  split at e <;> first
    | (rename_i e1; rw [k.at e1]; exact e)
    | cases e
def isLst (v : EV) (h : EH) : Option (List EV) := match v with
  | .ref r => match h[r]? with
    | some (.lst xs) => some xs
    | _ => none
  | _ => none
theorem isLst_some {v : EV} {h : EH} {xs : List EV} (e : isLst v h = some xs) : ∃ r, v = .ref r ∧ h[r]? = some (.lst xs) := by
  unfold isLst at e
  split at e
  · split at e
    · rename_i e1; cases e; exact ⟨_, rfl, e1⟩
    · cases e
  · cases e
theorem isLst_keep {h h' : EH} {v : EV} {t : String} (k : Keep no1 h h') (e : tyE v h = some t) : isLst v h' = isLst v h := by
  cases v <;> simp [tyE] at e <;> try rfl
  rename_i r
  unfold isLst
  split at e <;> first
    | (rename_i e1; simp only [e1, k.at e1])
    | cases e
def rowsOf (h : EH) (m : Nat) : List EV → Option (List (List EV))
  | [] => some []
  | x :: xs => match isLst x h with
    | some es => if es.length = m + 1 then (rowsOf h m xs).map (es :: ·) else none
    | none => none
def tblOf (h : EH) (v : EV) (n m : Nat) : Option (List (List EV)) := match isLst v h with
  | some rows => if rows.length = n + 1 then rowsOf h m rows else none
  | none => none
def entAt (es : List (List EV)) (i j : Nat) : EV := (es.getD i []).getD j .non
def toT (es : List (List EV)) : Tbl := fun i j => match entAt es i j with
  | .int v => some v
  | _ => none
def isNon : EV → Bool
  | .non => true
  | _ => false
def entOk (p : Prom) (i j : Nat) (v : EV) : Bool := if p.ok i j = true then isInt v else isNon v
def tableB (p : Prom) (n m : Nat) (es : List (List EV)) : Bool := (ptsL n m).all fun q => entOk p q.1 q.2 (entAt es q.1 q.2)
def Wd.stB (w : Wd) (R : Tbl) (i j : Nat) (v : Int) (c : Nat) : Bool := match R (mvI i c) (mvJ j c) with
  | some u => decide (u ≤ v + w.cs i j c)
  | none => true
def Wd.ptB (w : Wd) (R : Tbl) (q : Nat × Nat) : Bool := match R q.1 q.2 with
  | none => true
  | some v => (w.stp q.1 q.2).all (w.stB R q.1 q.2 v)
def Wd.boundB (w : Wd) (R : Tbl) : Bool := decide (R 0 0 = some 0) && (ptsL w.n w.m).all (w.ptB R)
def Wd.boundV (w : Wd) (h : EH) (v : EV) : Bool := match tblOf h v w.n w.m with
  | some es => tableB w.p w.n w.m es && w.boundB (toT es)
  | none => false
structure TyOk (h : EH) (v : EV) (n m : Nat) : Prop where
  a : (tyE v h).isSome = true
  b : ∀ rows, isLst v h = some rows → rows.length = n + 1 → ∀ x ∈ rows, (tyE x h).isSome = true
  c : ∀ es, tblOf h v n m = some es → ∀ r ∈ es, ∀ x ∈ r, (tyE x h).isSome = true
theorem rowsOf_keep {h h' : EH} {m : Nat} (k : Keep no1 h h') : ∀ {rows : List EV}, (∀ x ∈ rows, (tyE x h).isSome = true) → rowsOf h' m rows = rowsOf h m rows
  | [], _ => rfl
  | x :: xs, t => by
    obtain ⟨tx, ht⟩ := Option.isSome_iff_exists.mp (t x (by simp))
    rw [rowsOf, rowsOf, isLst_keep k ht, rowsOf_keep k fun y hy => t y (List.mem_cons_of_mem _ hy)]
theorem TyOk.tbl {h h' : EH} {v : EV} {n m : Nat} (t : TyOk h v n m) (k : Keep no1 h h') : tblOf h' v n m = tblOf h v n m := by
  obtain ⟨tv, ht⟩ := Option.isSome_iff_exists.mp t.a
  unfold tblOf
  rw [isLst_keep k ht]
  split
  · rename_i rows e
    split
    · rename_i hl
      exact rowsOf_keep k (t.b rows e hl)
    · rfl
  · rfl
theorem TyOk.keep {h h' : EH} {v : EV} {n m : Nat} (t : TyOk h v n m) (k : Keep no1 h h') : TyOk h' v n m := by
  have ks : ∀ {x : EV}, (tyE x h).isSome = true → (tyE x h').isSome = true := fun {x} e => by
    obtain ⟨tx, ht⟩ := Option.isSome_iff_exists.mp e
    rw [tyE_keep k ht]; rfl
  obtain ⟨tv, ht⟩ := Option.isSome_iff_exists.mp t.a
  refine ⟨ks t.a, fun rows e hl x hx => ?_, fun es e r hr x hx => ?_⟩
  · rw [isLst_keep k ht] at e
    exact ks (t.b rows e hl x hx)
  · rw [t.tbl k] at e
    exact ks (t.c es e r hr x hx)
end Y

namespace Y
open PySem PySem.Spec PyProof.Rows L2

end Y

namespace Y
open PySem PySem.Spec PyProof.Rows L2

def Wd.hT (w : Wd) : Tbl := fun i j => match w.rest 0 0, w.rest i j with
  | some a, some b => some (a - b)
  | _, _ => none
def isSt (c : Nat) : Bool := decide (c = 107) || decide (c = 100) || decide (c = 112)
theorem step_isSt {s : List Nat} (h : StepC s) : s.all isSt = true := by
  rw [List.all_eq_true]
  intro c hc
  rcases h c hc with rfl | rfl | rfl <;> rfl
def Wd.leastV (w : Wd) (h : EH) (sv v : EV) : Bool := match sv with
  | .str s => s.all isSt && (wrg w.l w.r s 0 0 0).isNone && w.p.kept s && w.boundV h v && (match tblOf h v w.n w.m with
    | some es => decide (toT es w.n w.m = some (priceS (cost w.c) w.l w.r s 0 0))
    | none => false)
  | _ => false
end Y

namespace Y
open PySem PySem.Spec PyProof.Rows L2

def Wd.cin (w : Wd) (p : Nat → Nat → Bool) (C : Nat → Nat → Nat) (i j : Nat) : Nat :=
  (if i = 0 ∧ j = 0 then 1 else 0) + (if 0 < i ∧ 0 < j ∧ p (i - 1) (j - 1) = true ∧ 107 ∈ w.tight (i - 1) (j - 1) then C (i - 1) (j - 1) else 0) +
  (if 0 < i ∧ p (i - 1) j = true ∧ 100 ∈ w.tight (i - 1) j then C (i - 1) j else 0) + (if 0 < j ∧ p i (j - 1) = true ∧ 112 ∈ w.tight i (j - 1) then C i (j - 1) else 0)
def Wd.cntF (w : Wd) : Nat → Nat → Nat → Nat
  | 0, _, _ => 0
  | k + 1, i, j => w.cin (fun _ _ => true) (Wd.cntF w k) i j
def Wd.cnt (w : Wd) (i j : Nat) : Nat := w.cntF (i + j + 1) i j
def Wd.many (w : Wd) : Nat := if w.rest 0 0 = none then 0 else w.cnt w.n w.m
def oc (n : Nat) : Option EV := if n = 0 then none else some (.int n)
theorem isKeyT_pt (i j : Nat) : isKeyT (ptE i j) := rfl
end Y

namespace Y
open PySem PySem.Spec PyProof.Rows L2

theorem Wd.stp_iff {w : Wd} {i j c : Nat} : c ∈ w.stp i j ↔ isStep c ∧ canDo w.l w.r c i j = true ∧ w.p.ok (mvI i c) (mvJ j c) = true := by
  unfold Wd.stp isStep
  rw [List.mem_filter]
  simp
structure Wd.Bnd (w : Wd) (R : Tbl) : Prop where
  z : R 0 0 = some 0
  s : ∀ (i j c : Nat) (u v : Int), i ≤ w.n → j ≤ w.m → c ∈ w.stp i j → R i j = some v → R (mvI i c) (mvJ j c) = some u → u ≤ v + w.cs i j c
  o : ∀ i j, i ≤ w.n → j ≤ w.m → (w.p.ok i j = true ↔ R i j ≠ none)
theorem Wd.Bnd.weak {w : Wd} {R : Tbl} (b : w.Bnd R) : ∀ (s : List Nat) (i j k : Nat) (v : Int), StepC s → wrg w.l w.r s i j k = none → (∀ q ∈ pts i j s, w.p.ok q.1 q.2 = true) → i ≤ w.n → j ≤ w.m → R i j = some v → ∃ u, R w.n w.m = some u ∧ u ≤ v + priceS (cost w.c) w.l w.r s i j
  | [], i, j, k, v, _, hw, _, hi, hj, hv => by
    rw [wrg] at hw
    split at hw
    · rename_i e
      obtain ⟨rfl, rfl⟩ := e
      exact ⟨v, hv, by simp [priceS]⟩
    · cases hw
  | c :: s, i, j, k, v, hs, hw, ho, hi, hj, hv => by
    rw [wrg] at hw
    split at hw
    · rename_i cd
      have ok : w.p.ok (mvI i c) (mvJ j c) = true := ho (mvI i c, mvJ j c) (by
        rw [pts]
        refine List.mem_cons_of_mem _ ?_
        cases s <;> simp [pts])
      have hc : c ∈ w.stp i j := Wd.stp_iff.mpr ⟨hs c (by simp), cd, ok⟩
      have le := w.stp_le hc hi hj
      obtain ⟨x, ex⟩ := Option.ne_none_iff_exists'.mp ((b.o _ _ le.1 le.2).mp ok)
      have l1 := b.s i j c x v hi hj hc hv ex
      obtain ⟨u, eu, lu⟩ := b.weak s (mvI i c) (mvJ j c) (k + 1) x (fun c hc => hs c (List.mem_cons_of_mem _ hc)) hw (fun q hq => ho q (by rw [pts]; exact List.mem_cons_of_mem _ hq)) le.1 le.2 ex
      refine ⟨u, eu, ?_⟩
      rw [priceS]
      have : w.cs i j c = stepCost (cost w.c) w.l w.r c i j := rfl
      omega
    · cases hw
end Y

namespace Y
open PySem PySem.Spec PyProof.Rows L2

theorem rowsOf_of {h : EH} {m : Nat} : ∀ (rs : List Nat) (F : Nat → List EV), (∀ (i q : Nat), rs[i]? = some q → h[q]? = some (EO.lst (F i))) → (∀ i, (F i).length = m + 1) → rowsOf h m (rs.map EV.ref) = some ((List.range rs.length).map F)
  | [], F, _, _ => rfl
  | q :: rs, F, z, l => by
    have e := z 0 q rfl
    have ih := rowsOf_of rs (fun i => F (i + 1)) (fun i x hx => z (i + 1) x (by simpa using hx)) (fun i => l _)
    rw [List.map_cons, rowsOf]
    have e1 : isLst (.ref q) h = some (F 0) := by simp only [isLst, e]
    rw [e1]
    dsimp only
    rw [if_pos (l 0), ih, List.length_cons, List.range_succ_eq_map]
    simp
abbrev rowsL (n m : Nat) (R : Tbl) : List (List EV) := (List.range (n + 1)).map fun i => rowE m (R i)
theorem RowsAt.tbl {h : EH} {b t r n m : Nat} {R : Tbl} (z : RowsAt h b t r n m R) : tblOf h (.ref r) n m = some (rowsL n m R) := by
  obtain ⟨rs, e, l, _, _, _, _, g⟩ := z
  have e1 : isLst (.ref r) h = some (rs.map EV.ref) := by simp only [isLst, e]
  unfold tblOf
  rw [e1]
  dsimp only
  rw [if_pos (by simpa using l), rowsOf_of rs (fun i => rowE m (R i)) g (fun i => rowE_len _ _), l]
theorem entAt_rows {n m i j : Nat} {R : Tbl} (hi : i ≤ n) (hj : j ≤ m) : entAt (rowsL n m R) i j = optE (R i j) := by
  unfold entAt
  have e1 : (rowsL n m R).getD i [] = rowE m (R i) := by
    rw [List.getD_eq_getElem?_getD, List.getElem?_map, List.getElem?_range (by omega)]; rfl
  rw [e1, List.getD_eq_getElem?_getD, rowE_at hj]; rfl
theorem toT_rows {n m i j : Nat} {R : Tbl} (hi : i ≤ n) (hj : j ≤ m) : toT (rowsL n m R) i j = R i j := by
  unfold toT
  rw [entAt_rows hi hj]
  cases R i j <;> rfl
theorem tyE_opt {h : EH} (o : Option Int) : (tyE (optE o) h).isSome = true := by cases o <;> simp [optE, tyE]
theorem RowsAt.ty {h : EH} {b t r n m : Nat} {R : Tbl} (z : RowsAt h b t r n m R) : TyOk h (.ref r) n m := by
  obtain ⟨rs, e, l, _, _, _, _, g⟩ := z
  have zt : tblOf h (.ref r) n m = some (rowsL n m R) := RowsAt.tbl (b := b) (t := t) ⟨rs, e, l, by assumption, by assumption, by assumption, by assumption, g⟩
  refine ⟨by simp [tyE, e], fun rows er hl x hx => ?_, fun es ee y hy x hx => ?_⟩
  · have e1 : isLst (.ref r) h = some (rs.map EV.ref) := by simp only [isLst, e]
    rw [e1] at er
    cases er
    obtain ⟨q, hq, rfl⟩ := List.mem_map.mp hx
    obtain ⟨i, hi⟩ := List.getElem?_of_mem hq
    simp [tyE, g i q hi]
  · rw [zt] at ee
    cases ee
    obtain ⟨i, _, rfl⟩ := List.mem_map.mp hy
    obtain ⟨j, _, rfl⟩ := List.mem_map.mp hx
    exact tyE_opt _
theorem RowsAt.bound {h : EH} {b t r : Nat} {w : Wd} {R : Tbl} (z : RowsAt h b t r w.n w.m R) (B : w.Bnd R) : w.boundV h (.ref r) = true := by
  unfold Wd.boundV
  rw [z.tbl]
  dsimp only
  rw [Bool.and_eq_true]
  constructor
  · unfold tableB
    rw [List.all_eq_true]
    rintro ⟨i, j⟩ hq
    have hq := ptsL_mem.mp hq
    dsimp only at hq ⊢
    rw [entAt_rows hq.1 hq.2]
    unfold entOk
    have o := B.o i j hq.1 hq.2
    by_cases h1 : w.p.ok i j = true
    · rw [if_pos h1]
      obtain ⟨v, e⟩ := Option.ne_none_iff_exists'.mp (o.mp h1)
      rw [e]; rfl
    · rw [if_neg h1]
      have : R i j = none := Decidable.byContradiction fun z => h1 (o.mpr z)
      rw [this]; rfl
  · unfold Wd.boundB
    rw [Bool.and_eq_true, decide_eq_true_eq, toT_rows (Nat.zero_le _) (Nat.zero_le _)]
    refine ⟨B.z, ?_⟩
    rw [List.all_eq_true]
    rintro ⟨i, j⟩ hq
    have hq := ptsL_mem.mp hq
    dsimp only at hq
    unfold Wd.ptB
    dsimp only
    rw [toT_rows hq.1 hq.2]
    cases e : R i j with
    | none => rfl
    | some v =>
      dsimp only
      rw [List.all_eq_true]
      intro c hc
      have le := w.stp_le hc hq.1 hq.2
      unfold Wd.stB
      rw [toT_rows le.1 le.2]
      cases e2 : R (mvI i c) (mvJ j c) with
      | none => rfl
      | some u => exact decide_eq_true (B.s i j c u v hq.1 hq.2 hc e e2)
theorem RowsAt.least {h : EH} {b t r : Nat} {w : Wd} {R : Tbl} {s : List Nat} (z : RowsAt h b t r w.n w.m R) (B : w.Bnd R) (sc : StepC s) (hw : wrg w.l w.r s 0 0 0 = none) (hk : w.p.kept s = true) :
    w.leastV h (.str s) (.ref r) = decide (R w.n w.m = some (priceS (cost w.c) w.l w.r s 0 0)) := by
  unfold Wd.leastV
  dsimp only
  rw [z.tbl, z.bound B, step_isSt sc, hw, hk]
  dsimp only
  rw [toT_rows (Nat.le_refl _) (Nat.le_refl _)]
  rfl
end Y

namespace Y
open PySem PySem.Spec PyProof.Rows L2

def Grow (h0 h : EH) (m i : Nat) (R : Tbl) : Prop := Keep no1 h0 h ∧ ∃ rs : List Nat, h[h0.length]? = some (.lst (rs.map EV.ref)) ∧ rs.length = i ∧ rs.Nodup ∧ (∀ q ∈ rs, h0.length < q ∧ q < h.length) ∧ ∀ (a q : Nat), rs[a]? = some q → h[q]? = some (.lst (rowE m (R a)))
theorem Grow.start {h0 : EH} {m : Nat} {R : Tbl} : Grow h0 (h0 ++ [.lst []]) m 0 R := ⟨Keep.app _, [], new_at, rfl, List.nodup_nil, by simp, by simp⟩
theorem Grow.keep {h0 h h' : EH} {m i : Nat} {R : Tbl} (z : Grow h0 h m i R) (k : Keep no1 h h') : Grow h0 h' m i R := by
  obtain ⟨k0, rs, e, l, nd, b, g⟩ := z
  exact ⟨k0.trans k, rs, k.at e, l, nd, fun q hq => ⟨(b q hq).1, Nat.lt_of_lt_of_le (b q hq).2 k.1⟩, fun a q hq => k.at (g a q hq)⟩
theorem Grow.lst {h0 h : EH} {m i : Nat} {R : Tbl} (z : Grow h0 h m i R) : ∃ xs, h[h0.length]? = some (.lst xs) ∧ xs.length = i := by
  obtain ⟨k0, rs, e, l, nd, b, g⟩ := z
  exact ⟨_, e, by rw [List.length_map, l]⟩
theorem Grow.push {h0 h h' : EH} {m i W : Nat} {R : Tbl} {xs : List EV} (z : Grow h0 h m i R) (k : Keep no1 h h') (hW : h.length ≤ W) (eW : h'[W]? = some (.lst (rowE m (R i)))) (ex : h'[h0.length]? = some (.lst xs)) : Grow h0 (h'.set h0.length (.lst (xs ++ [.ref W]))) m (i + 1) R := by
  obtain ⟨k0, rs, e, l, nd, b, g⟩ := z
  have := k.at e
  rw [ex] at this
  cases this
  have lF := lt_of_at e
  have lW := lt_of_at eW
  refine ⟨(k0.trans k).fresh (Nat.le_refl _), rs ++ [W], by rw [set_at ex]; simp, by simp [l], ?_, ?_, ?_⟩
  · rw [List.nodup_append]
    refine ⟨nd, by simp, fun a ha b' hb => ?_⟩
    have := (b a ha).2
    simp at hb
    omega
  · intro q hq
    rcases List.mem_append.mp hq with y | y
    · have := b q y
      have := k.1
      simp; omega
    · have : q = W := by simpa using y
      subst this
      simp; omega
  · intro a q hq
    by_cases ha : a < i
    · rw [List.getElem?_append_left (by omega)] at hq
      exact set_off (k.at (g a q hq)) (by have := b q (List.mem_of_getElem? hq); omega)
    · rw [List.getElem?_append_right (by omega)] at hq
      have ha2 : a - rs.length = 0 := by
        have := (List.getElem?_eq_some_iff.mp hq).1
        simp at this; omega
      rw [ha2] at hq
      simp at hq
      subst hq
      have : a = i := by omega
      subst this
      exact set_off eW (by omega)
theorem Grow.done {h0 h : EH} {n m : Nat} {R : Tbl} (z : Grow h0 h m (n + 1) R) : RowsAt h h0.length h.length h0.length n m R := by
  obtain ⟨k0, rs, e, l, nd, b, g⟩ := z
  exact ⟨rs, e, l, nd, fun z => Nat.lt_irrefl _ (b _ z).1, ⟨Nat.le_refl _, lt_of_at e⟩, fun q hq => ⟨Nat.le_of_lt (b q hq).1, (b q hq).2⟩, g⟩
theorem rangeL_nat (n : Nat) : rangeL 0 n = (List.range' 0 n).map fun (k : Nat) => EV.int k := by
  unfold rangeL
  rw [List.range_eq_range']
  refine List.map_congr_left fun k _ => ?_
  rw [Int.zero_add]
theorem loop_nat {g : EH → Prop} {p : Pat} {tb : LS} {D : LEnds} (n : Nat) (I : Nat → En → EH → Prop)
    (stop : ∀ env h, I n env h → g h ∧ D.nx env h)
    (turn : ∀ i env h (k : En → EH → Prop), i < n → I i env h → (∀ env' h', I (i + 1) env' h' → k env' h') → g h ∧ lBind h p (.int (i : Nat)) env fun env2 => tb { D with nx := k, ct := k, bk := D.nx } env2 h) :
    ∀ env h, I 0 env h → loopE g p tb D (rangeL 0 n) env h := by
  intro env h i0
  rw [rangeL_nat]
  refine loop_ind (fun left env h => ∃ i : Nat, i ≤ n ∧ left = (List.range' i (n - i)).map (fun (k : Nat) => EV.int k) ∧ I i env h) ?_ ?_ _ _ _ ⟨0, Nat.zero_le _, rfl, i0⟩
  · rintro env h ⟨i, hi, el, z⟩
    have : i = n := by
      have := congrArg List.length el
      simp at this
      omega
    subst this
    exact stop env h z
  · rintro x left env h k ⟨i, hi, el, z⟩ hk
    have hi2 : i < n := by
      have := congrArg List.length el
      simp at this
      omega
    rw [show n - i = (n - i - 1) + 1 by omega, List.range'_succ, List.map_cons, List.cons.injEq] at el
    obtain ⟨rfl, rfl⟩ := el
    exact turn i env h k hi2 z fun env' h' z' => hk env' h' ⟨i + 1, hi2, by rw [show n - (i + 1) = n - i - 1 by omega], z'⟩
def stpN (l r : List Int) (i j : Nat) : List Nat := [107, 100, 112].filter fun c => canDo l r c i j
def stE (c : Nat) : EV := .str [c]
end Y

namespace Y
open PySem PySem.Spec PyProof.Rows L2

theorem RowsAt.keepB {h h' : EH} {b0 t r n m b : Nat} {R : Tbl} (z : RowsAt h b0 t r n m R) (B : BagAt h b) (k : Keep (is1 b) h h') : RowsAt h' b0 t r n m R := by
  obtain ⟨rs, e, l, nd, nr, br, bq, g⟩ := z
  obtain ⟨c, x, y, u, ns, eb, _⟩ := B
  refine ⟨rs, k.other e ?_, l, nd, nr, br, bq, fun i q hq => k.other (g i q hq) ?_⟩
  · rintro rfl
    rw [eb] at e
    cases rs with
    | nil => simp at l
    | cons a rs => simp at e
  · rintro rfl
    have g' := g i _ hq
    rw [eb] at g'
    have e4 : [EV.int x, .int y, .int u, .ref c] = rowE m (R i) := by simpa using g'
    have e5 : (rowE m (R i))[3]? = some (.ref c) := by rw [← e4]; rfl
    have l5 := (List.getElem?_eq_some_iff.mp e5).1
    rw [rowE_len] at l5
    rw [rowE_at (by omega)] at e5
    cases hv : R i 3 <;> rw [hv] at e5 <;> cases e5
theorem RowsAt.base {h : EH} {b b' t r n m : Nat} {R : Tbl} (z : RowsAt h b t r n m R) (l : b' ≤ b) : RowsAt h b' t r n m R := by
  obtain ⟨rs, e, l', nd, nr, br, bq, g⟩ := z
  exact ⟨rs, e, l', nd, nr, ⟨by omega, br.2⟩, fun q hq => ⟨by have := (bq q hq).1; omega, (bq q hq).2⟩, g⟩
theorem eqE_nilS {n : Bool} {a b : Nat} {ns : List Nat} {h : EH} {P : EK} (e : h[a]? = some (.lst (ns.map stE))) (e2 : h[b]? = some (.lst [])) (p : P (.bl (n ^^ decide (ns = []))) h) : eqE n (.ref a) (.ref b) h P := by
  unfold eqE
  have d1 : ∀ l : List Nat, Dats h 59 (l.map stE) (l.map fun c => PyData.str (S [c])) := by
    intro l
    induction l with
    | nil => exact .nil
    | cons x l ih => exact .cons (.str [x]) ih
  refine ⟨.list (ns.map fun c => PyData.str (S [c])), .list [], .lst e (d1 ns), .lst e2 .nil, ?_⟩
  have e3 : PyData.eqv (.list (ns.map fun c => PyData.str (S [c]))) (.list []) = decide (ns = []) := by
    cases ns <;> simp [PyData.eqv, PyData.eqvAll]
  rw [e3]
  exact p
theorem pts_snoc (c : Nat) : ∀ (s : List Nat) (i j : Nat), pts i j (s ++ [c]) = pts i j s ++ [(mvI (endS s i j).1 c, mvJ (endS s i j).2 c)]
  | [], i, j => rfl
  | d :: s, i, j => by rw [List.cons_append, pts, pts, pts_snoc c s, endS]; rfl
theorem endS_snoc (c : Nat) (s : List Nat) (i j : Nat) : endS (s ++ [c]) i j = (mvI (endS s i j).1 c, mvJ (endS s i j).2 c) := by
  rw [endS_app]; rfl
def nearB (g : Int) (i j : Nat) : Bool := decide ((((i : Int) - j).natAbs : Int) ≤ g)
structure Scr (l r : List Int) (g : Int) (k i j : Nat) (s : List Nat) : Prop where
  e : endS s 0 0 = (i, j)
  c : StepC s
  w : ∀ (t : List Nat) (x : Nat), wrg l r (s ++ t) 0 0 x = wrg l r t i j (x + s.length)
  p : ∀ q ∈ pts 0 0 s, nearB g q.1 q.2 = true
  n : s.length ≤ k
theorem Scr.step {l r : List Int} {g : Int} {k i j c : Nat} {s : List Nat} (z : Scr l r g k i j s) (hc : c ∈ (stpN l r i j).filter fun c => nearB g (mvI i c) (mvJ j c)) : Scr l r g (k + 1) (mvI i c) (mvJ j c) (s ++ [c]) := by
  rw [List.mem_filter] at hc
  obtain ⟨hc, hn⟩ := hc
  unfold stpN at hc
  rw [List.mem_filter] at hc
  obtain ⟨h3, cd⟩ := hc
  refine ⟨by rw [endS_snoc, z.e], fun x hx => ?_, fun t x => ?_, fun q hq => ?_, by have := z.n; simp; omega⟩
  · rcases List.mem_append.mp hx with y | y
    · exact z.c x y
    · rw [List.mem_singleton.mp y]
      simpa [isStep] using h3
  · rw [List.append_assoc, z.w, List.singleton_append, wrg, if_pos cd]
    simp; rfl
  · rw [pts_snoc, z.e] at hq
    rcases List.mem_append.mp hq with y | y
    · exact z.p q y
    · rw [List.mem_singleton.mp y]; exact hn
end Y

namespace Y
open PySem PySem.Spec PyProof.Rows L2

def DctAt (h : EH) (d : Nat) (w : Wd) : Prop := ∃ kvs, h[d]? = some (.dct kvs) ∧ ∀ a b, a ≤ w.n → b ≤ w.m → dGetT kvs (ptE a b) = some (optE (w.rest a b))
theorem DctAt.keep {h h' : EH} {d : Nat} {w : Wd} (z : DctAt h d w) (k : Keep no1 h h') : DctAt h' d w := by
  obtain ⟨kvs, e, g⟩ := z
  exact ⟨kvs, k.at e, g⟩
theorem DctAt.get {h : EH} {d : Nat} {w : Wd} (z : DctAt h d w) {a b : Nat} (ha : a ≤ w.n) (hb : b ≤ w.m) {P : EK} (q : P (optE (w.rest a b)) h) : ixA (.ref d) (ptE a b) h P := by
  obtain ⟨kvs, e, g⟩ := z
  exact ia_dt e (isKeyT_pt _ _) (g a b ha hb) q
def DctP (h : EH) (d : Nat) (w : Wd) (z : Nat) (done : Nat → Nat → Prop) : Prop := ∃ kvs, h[d]? = some (.dct kvs) ∧ kvs.length ≤ z ∧ ∀ a b, a ≤ w.n → b ≤ w.m → done a b → dGetT kvs (ptE a b) = some (optE (w.rest a b))
theorem DctP.get {h : EH} {d : Nat} {w : Wd} {z : Nat} {done : Nat → Nat → Prop} (y : DctP h d w z done) {a b : Nat} (ha : a ≤ w.n) (hb : b ≤ w.m) (hd : done a b) {P : EK} (q : P (optE (w.rest a b)) h) : ixA (.ref d) (ptE a b) h P := by
  obtain ⟨kvs, e, _, g⟩ := y
  exact ia_dt e (isKeyT_pt _ _) (g a b ha hb hd) q
theorem DctP.keep {h h' : EH} {d : Nat} {w : Wd} {z : Nat} {done : Nat → Nat → Prop} (y : DctP h d w z done) (k : Keep no1 h h') : DctP h' d w z done := by
  obtain ⟨kvs, e, l, g⟩ := y
  exact ⟨kvs, k.at e, l, g⟩
end Y

namespace Y
open PySem PySem.Spec PyProof.Rows L2

end Y

namespace Y
open PySem PySem.Spec PyProof.Rows L2

end Y

namespace Y
open PySem PySem.Spec PyProof.Rows L2

section
variable {w : Wd} {c : Tab} (hc : ∀ x, cost c x = cost w.c x)
include hc
end
end Y

namespace Y
open PySem PySem.Spec PyProof.Rows L2

mutual
inductive DatB (b : Nat) (h : EH) : Nat → EV → PyData → Prop
  | non {n : Nat} : DatB b h n .non .none
  | bl {n : Nat} (x : Bool) : DatB b h n (.bl x) (.bool x)
  | int {n : Nat} (i : Int) : DatB b h n (.int i) (.int i)
  | str {n : Nat} (s : List Nat) : DatB b h n (.str s) (.str (S s))
  | tup {n : Nat} {xs : List EV} {ds : List PyData} : DatsB b h n xs ds → DatB b h (n + 1) (.tup xs) (.tuple ds)
  | lst {n : Nat} {r : Nat} {xs : List EV} {ds : List PyData} : b < r → h[r]? = some (.lst xs) → DatsB b h n xs ds → DatB b h (n + 1) (.ref r) (.list ds)
inductive DatsB (b : Nat) (h : EH) : Nat → List EV → List PyData → Prop
  | nil {n : Nat} : DatsB b h n [] []
  | cons {n : Nat} {x : EV} {xs : List EV} {d : PyData} {ds : List PyData} : DatB b h n x d → DatsB b h n xs ds → DatsB b h n (x :: xs) (d :: ds)
end
mutual
theorem DatB.dat {b : Nat} {h : EH} : ∀ (d : PyData) (n : Nat) (v : EV), DatB b h n v d → Dat h n v d
  | .none, _, _, a => by cases a; exact .non
  | .bool _, _, _, a => by cases a; exact .bl _
  | .int _, _, _, a => by cases a; exact .int _
  | .str _, _, _, a => by cases a; exact .str _
  | .dict _, _, _, a => by cases a
  | .tuple ds, _, _, a => by
    cases a with
    | tup r => exact .tup (DatsB.dats ds _ _ r)
  | .list ds, _, _, a => by
    cases a with
    | lst l e r => exact .lst e (DatsB.dats ds _ _ r)
theorem DatsB.dats {b : Nat} {h : EH} : ∀ (ds : List PyData) (n : Nat) (vs : List EV), DatsB b h n vs ds → Dats h n vs ds
  | [], _, _, a => by cases a; exact .nil
  | d :: ds, _, _, a => by
    cases a with
    | cons x y => exact .cons (DatB.dat d _ _ x) (DatsB.dats ds _ _ y)
end
mutual
theorem DatB.mono {b b' : Nat} {h h' : EH} (kp : ∀ r xs, b < r → h[r]? = some (.lst xs) → b' < r ∧ h'[r]? = some (.lst xs)) : ∀ (d : PyData) (n j : Nat) (v : EV), n ≤ j → DatB b h n v d → DatB b' h' j v d
  | .none, _, _, _, _, a => by cases a; exact .non
  | .bool _, _, _, _, _, a => by cases a; exact .bl _
  | .int _, _, _, _, _, a => by cases a; exact .int _
  | .str _, _, _, _, _, a => by cases a; exact .str _
  | .dict _, _, _, _, _, a => by cases a
  | .tuple ds, n, j, _, l, a => by
    cases a with
    | tup r =>
      cases j with
      | zero => omega
      | succ j => exact .tup (DatsB.mono kp ds _ j _ (by omega) r)
  | .list ds, n, j, _, l, a => by
    cases a with
    | lst lr e r =>
      cases j with
      | zero => omega
      | succ j =>
        obtain ⟨y, e2⟩ := kp _ _ lr e
        exact .lst y e2 (DatsB.mono kp ds _ j _ (by omega) r)
theorem DatsB.mono {b b' : Nat} {h h' : EH} (kp : ∀ r xs, b < r → h[r]? = some (.lst xs) → b' < r ∧ h'[r]? = some (.lst xs)) : ∀ (ds : List PyData) (n j : Nat) (vs : List EV), n ≤ j → DatsB b h n vs ds → DatsB b' h' j vs ds
  | [], _, _, _, _, a => by cases a; exact .nil
  | d :: ds, _, _, _, l, a => by
    cases a with
    | cons x y => exact .cons (DatB.mono kp d _ _ _ l x) (DatsB.mono kp ds _ _ _ l y)
end
structure SmlD (k : Nat) (d : PyData) : Prop where
  s : d.showable = true
  l : d.leavesShort 42 = true
  w : d.weight ≤ k
structure SmlDs (k : Nat) (d : List PyData) : Prop where
  s : PyData.showableAll d = true
  l : PyData.leavesShortAll 42 d = true
  w : PyData.weightAll d ≤ k
def VOk (b : Nat) (h : EH) (n k : Nat) (v : EV) : Prop := ∃ d, DatB b h n v d ∧ SmlD k d
def VsOk (b : Nat) (h : EH) (n k : Nat) (vs : List EV) : Prop := ∃ ds, DatsB b h n vs ds ∧ SmlDs k ds
section
variable {b : Nat} {h h' : EH} {n k j : Nat}
theorem VOk.keepB {v : EV} (z : VOk b h n k v) (kp : Keep (is1 b) h h') : VOk b h' n k v := by
  obtain ⟨d, a, c⟩ := z
  exact ⟨d, DatB.mono (fun r xs lr e => ⟨lr, kp.2 r _ e (fun y => by rw [is1] at y; omega)⟩) d n n v (Nat.le_refl _) a, c⟩
theorem VOk.keep {v : EV} (z : VOk b h n k v) (kp : Keep no1 h h') : VOk b h' n k v := z.keepB kp.all
theorem VOk.up {v : EV} {n' k' : Nat} (z : VOk b h n k v) (hn : n ≤ n') (hk : k ≤ k') : VOk b h n' k' v := by
  obtain ⟨d, a, c⟩ := z
  exact ⟨d, DatB.mono (fun r xs lr e => ⟨lr, e⟩) d n n' v hn a, c.s, c.l, Nat.le_trans c.w hk⟩
theorem VOk.low {v : EV} {b' : Nat} (z : VOk b h n k v) (hb : b' ≤ b) : VOk b' h n k v := by
  obtain ⟨d, a, c⟩ := z
  exact ⟨d, DatB.mono (fun r xs lr e => ⟨by omega, e⟩) d n n v (Nat.le_refl _) a, c⟩
theorem VOk.non : VOk b h n k .non := ⟨_, .non, by simp [PyData.showable], by simp [PyData.leavesShort], by simp [PyData.weight]⟩
theorem VOk.bl {x : Bool} : VOk b h n k (.bl x) := ⟨_, .bl x, by simp [PyData.showable], by simp [PyData.leavesShort], by simp [PyData.weight]⟩
theorem VOk.int {i : Int} (hi : i.natAbs < 10 ^ 31) (hk : 104 ≤ k) : VOk b h n k (.int i) := by
  have l : i.natAbs.log2 < 103 := log_le (Nat.lt_of_lt_of_le hi (by decide)) (by decide)
  refine ⟨_, .int i, ?_, ?_, ?_⟩
  · rw [PyData.showable.eq_4]
    exact decide_eq_true (by omega)
  · simp only [PyData.leavesShort]
    refine decide_eq_true ?_
    have e := PySem.int_text_length_le10 (k := 31) (a := i) (by decide) hi
    show (Str.ofString (toString i)).length ≤ 42
    rw [PySem.ofString_length]; omega
  · simp only [PyData.weight]
    split <;> omega
theorem VOk.str {s : List Nat} (hs : ∀ c ∈ s, c < 16 ^ 8) (hk : s.length ≤ k) : VOk b h n k (.str s) := by
  refine ⟨_, .str s, by rw [PyData.showable.eq_3], ?_, ?_⟩
  · simp only [PyData.leavesShort, List.all_eq_true, decide_eq_true_eq]
    exact fun c hc => hs c (by simpa using hc)
  · simp only [PyData.weight]
    simpa using hk
theorem VsOk.nil : VsOk b h n k [] := ⟨[], .nil, by simp [PyData.showableAll], by simp [PyData.leavesShortAll], by simp [PyData.weightAll]⟩
theorem VsOk.cons {x : EV} {xs : List EV} {c : Nat} (a : VOk b h n c x) (z : VsOk b h n k xs) : VsOk b h n (c + 1 + k) (x :: xs) := by
  obtain ⟨d, a1, a2⟩ := a
  obtain ⟨ds, z1, z2⟩ := z
  refine ⟨d :: ds, .cons a1 z1, ?_, ?_, ?_⟩
  · simp only [PyData.showableAll, a2.s, z2.s, Bool.and_self]
  · simp only [PyData.leavesShortAll, a2.l, z2.l, Bool.and_self]
  · simp only [PyData.weightAll]
    have := a2.w
    have := z2.w
    omega
theorem VsOk.all {c : Nat} : ∀ {vs : List EV}, (∀ v ∈ vs, VOk b h n c v) → VsOk b h n (vs.length * (c + 1)) vs
  | [], _ => VsOk.nil
  | x :: xs, z => by
    have y := VsOk.cons (z x (by simp)) (VsOk.all (vs := xs) fun v hv => z v (List.mem_cons_of_mem _ hv))
    rw [List.length_cons, Nat.add_mul, Nat.one_mul, Nat.add_comm]
    exact y
theorem VsOk.up {vs : List EV} {k' : Nat} (z : VsOk b h n k vs) (hk : k ≤ k') : VsOk b h n k' vs := by
  obtain ⟨ds, a, c⟩ := z
  exact ⟨ds, a, c.s, c.l, Nat.le_trans c.w hk⟩
theorem VOk.tup {xs : List EV} (z : VsOk b h n k xs) : VOk b h (n + 1) k (.tup xs) := by
  obtain ⟨ds, a, c⟩ := z
  refine ⟨_, .tup a, ?_, ?_, ?_⟩
  · simpa only [PyData.showable] using c.s
  · simpa only [PyData.leavesShort] using c.l
  · simpa only [PyData.weight] using c.w
theorem VOk.lst {r : Nat} {xs : List EV} (hb : b < r) (e : h[r]? = some (.lst xs)) (z : VsOk b h n k xs) : VOk b h (n + 1) k (.ref r) := by
  obtain ⟨ds, a, c⟩ := z
  refine ⟨_, .lst hb e a, ?_, ?_, ?_⟩
  · simpa only [PyData.showable] using c.s
  · simpa only [PyData.leavesShort] using c.l
  · simpa only [PyData.weight] using c.w
theorem SmlD.fits {d : PyData} (z : SmlD k d) (hk : k ≤ 2 ^ 17) : d.shown.length ≤ sizeLine := by
  have h1 := PyData.shown_le 42 (by decide) d z.l
  have e : (2 : Nat) ^ 17 = 131072 := by decide
  have h2 : (42 + 2) * d.weight ≤ 44 * 131072 := Nat.mul_le_mul (Nat.le_refl _) (Nat.le_trans z.w (by omega))
  rw [sizeLine_eq]
  omega
theorem VOk.repr {v : EV} (z : VOk b h n k v) (hn : n ≤ 60) (hk : k ≤ 2 ^ 17) : ∃ s : List Nat, ∀ (h2 : EH) (P : EK), Keep (is1 b) h h2 → P (.str s) h2 → reprE [v] h2 P := by
  obtain ⟨d, a, c⟩ := z
  refine ⟨d.shown.cps.toList, fun h2 P k2 p => ⟨d, ?_, c.s, c.fits hk, p⟩⟩
  exact (DatB.dat d n v (DatB.mono (fun r xs lr e => ⟨lr, k2.2 r _ e (fun y => by rw [is1] at y; omega)⟩) d n n v (Nat.le_refl _) a)).deep hn
theorem DatB.ty {v : EV} {d : PyData} (a : DatB b h n v d) : (tyE v h).isSome = true := by
  cases a with
  | lst _ e _ => simp [tyE, e]
  | _ => simp [tyE]
theorem VOk.ty {v : EV} (z : VOk b h n k v) : (tyE v h).isSome = true := by
  obtain ⟨d, a, _⟩ := z
  exact a.ty
theorem DatsB.at {vs : List EV} {ds : List PyData} : DatsB b h n vs ds → ∀ x ∈ vs, ∃ d, DatB b h n x d := by
  induction vs generalizing ds with
  | nil => intro _ x hx; simp at hx
  | cons y ys ih =>
    intro a x hx
    cases a with
    | cons a1 a2 =>
      rcases List.mem_cons.mp hx with rfl | hx
      · exact ⟨_, a1⟩
      · exact ih a2 x hx
theorem DatB.items {v : EV} {d : PyData} {xs : List EV} (a : DatB b h n v d) (e : isLst v h = some xs) : ∀ x ∈ xs, ∃ d n, DatB b h n x d := by
  obtain ⟨r, rfl, er⟩ := isLst_some e
  cases a with
  | lst _ e2 z =>
    rw [er] at e2
    cases e2
    intro x hx
    obtain ⟨d, q⟩ := z.at x hx
    exact ⟨d, _, q⟩
end
structure LookV (h : EH) (v : EV) : Prop where
  ty : (tyE v h).isSome = true
  its : ∀ xs, isLst v h = some xs → ∀ x ∈ xs, (tyE x h).isSome = true
  its2 : ∀ xs, isLst v h = some xs → ∀ x ∈ xs, ∀ ys, isLst x h = some ys → ∀ y ∈ ys, (tyE y h).isSome = true
theorem VOk.look {b n k : Nat} {h : EH} {v : EV} (z : VOk b h n k v) : LookV h v := by
  obtain ⟨d, a, _⟩ := z
  refine ⟨a.ty, fun xs e x hx => ?_, fun xs e x hx ys e2 y hy => ?_⟩
  · obtain ⟨_, _, q⟩ := a.items e x hx
    exact q.ty
  · obtain ⟨_, _, q⟩ := a.items e x hx
    obtain ⟨_, _, q2⟩ := q.items e2 y hy
    exact q2.ty
structure Rws (b : Nat) (h : EH) (r n m : Nat) (R : Tbl) : Prop where
  z : RowsAt h (b + 1) h.length r n m R
  s : ∀ i j v, R i j = some v → v.natAbs < 10 ^ 9
  n8 : n ≤ 9
  m8 : m ≤ 9
theorem RowsAt.lt2 {h : EH} {b t r n m : Nat} {R : Tbl} (z : RowsAt h b t r n m R) : b ≤ r := z.choose_spec.2.2.2.2.1.1
theorem Rws.keepB {b r n m : Nat} {h h' : EH} {R : Tbl} (w : Rws b h r n m R) (k : Keep (is1 b) h h') : Rws b h' r n m R := by
  refine ⟨?_, w.s, w.n8, w.m8⟩
  obtain ⟨rs, e, l, nd, nr, br, bq, g⟩ := w.z
  refine ⟨rs, k.2 r _ e (fun y => by rw [is1] at y; omega), l, nd, nr, ⟨br.1, Nat.lt_of_lt_of_le br.2 k.1⟩, fun q hq => ⟨(bq q hq).1, Nat.lt_of_lt_of_le (bq q hq).2 k.1⟩, fun i q hq => k.2 q _ (g i q hq) fun y => ?_⟩
  have := bq q (List.mem_of_getElem? hq)
  rw [is1] at y
  omega
theorem Rws.keep {b r n m : Nat} {h h' : EH} {R : Tbl} (w : Rws b h r n m R) (k : Keep no1 h h') : Rws b h' r n m R := w.keepB k.all
theorem Rws.of {b b0 t r n m : Nat} {h : EH} {R : Tbl} (z : RowsAt h b0 t r n m R) (hb : b < b0) (ht : t ≤ h.length) (s : ∀ i j v, R i j = some v → v.natAbs < 10 ^ 9) (hn : n ≤ 9) (hm : m ≤ 9) : Rws b h r n m R :=
  ⟨(z.more ht).base (by omega), s, hn, hm⟩
theorem VOk.opt {b : Nat} {h : EH} {n : Nat} {o : Option Int} (hs : ∀ v, o = some v → v.natAbs < 10 ^ 9) : VOk b h n 104 (optE o) := by
  cases o with
  | none => exact VOk.non
  | some v => exact VOk.int (Nat.lt_trans (hs v rfl) (by decide)) (Nat.le_refl _)
theorem Rws.ok {b r n m : Nat} {h : EH} {R : Tbl} (w : Rws b h r n m R) : VOk b h 2 20000 (.ref r) := by
  obtain ⟨rs, e, l, nd, nr, br, bq, g⟩ := w.z
  have h1 := w.n8
  have h2 := w.m8
  refine VOk.lst (by omega) e ((VsOk.all (c := 1050) fun v hv => ?_).up ?_)
  · obtain ⟨q, hq, rfl⟩ := List.mem_map.mp hv
    obtain ⟨i, hi⟩ := List.getElem?_of_mem hq
    refine VOk.lst (by have := (bq q hq).1; omega) (g i q hi) ((VsOk.all (c := 104) fun v hv => ?_).up ?_)
    · obtain ⟨j, _, rfl⟩ := List.mem_map.mp hv
      exact VOk.opt fun x hx => w.s _ _ x hx
    · rw [rowE_len]
      have : (m + 1) * (104 + 1) ≤ 10 * 105 := Nat.mul_le_mul (by omega) (Nat.le_refl _)
      omega
  · rw [List.length_map, l]
    have : (n + 1) * (1050 + 1) ≤ 10 * 1051 := Nat.mul_le_mul (by omega) (Nat.le_refl _)
    omega
end Y

namespace Y
open PySem PySem.Spec PyProof.Rows L2

end Y

namespace Y
open PySem PySem.Spec PyProof.Rows L2

end Y

namespace Y
open PySem PySem.Spec PyProof.Rows L2

end Y

namespace Y
open PySem PySem.Spec PyProof.Rows L2

end Y

namespace Y
open PySem PySem.Spec PyProof.Rows L2

def scrX (b : Nat) (h : EH) (v : EV) : Prop := VOk b h 2 2000 v ∧ ∀ s, v = .str s → s.length ≤ 2000
end Y

namespace Y
open PySem PySem.Spec PyProof.Rows L2

theorem scrX.keepB {b : Nat} {h h' : EH} {v : EV} (z : scrX b h v) (k : Keep (is1 b) h h') : scrX b h' v := ⟨z.1.keepB k, z.2⟩
end Y

namespace Y
open PySem PySem.Spec PyProof.Rows L2

theorem RowsAt.get {h : EH} {b t r n m x y : Nat} {R : Tbl} {P : EK} (z : RowsAt h b t r n m R) (hx : x ≤ n) (hy : y ≤ m) (p : P (optE (R x y)) h) : ixA (.ref r) (.int x) h fun v h1 => ixA v (.int y) h1 P := by
  obtain ⟨q, xs, e, a, _, _, _, er⟩ := z.row hx
  exact ia_l e ((atI_n _ _).trans a) (ia_l er ((atI_n _ _).trans (rowE_at hy)) p)
end Y

namespace Y
open PySem PySem.Spec PyProof.Rows L2

end Y

namespace Y
open PySem PySem.Spec PyProof.Rows L2

end Y

namespace Y
open PySem PySem.Spec PyProof.Rows L2

abbrev wSame : List Nat := [115, 97, 109, 101]
abbrev wUn : List Nat := [117, 110, 108, 105, 107, 101]
abbrev wTwin : List Nat := [116, 119, 105, 110]
abbrev wMany : List Nat := [109, 97, 110, 121]
def sdW (b : Bool) : List Nat := if b then [108, 101, 102, 116] else [114, 105, 103, 104, 116]
def eqWd (s : Bool) : List Nat := if s then wSame else wUn
inductive Tst where
  | eq (s : Bool) (i j : Nat)
  | twin (b : Bool) (i k : Nat)
  | many (b : Bool) (n : Nat)
deriving DecidableEq
def Tst.e : Tst → EV
  | .eq s i j => .tup [.str (eqWd s), .int i, .int j]
  | .twin b i k => .tup [.str wTwin, .str (sdW b), .int i, .int k]
  | .many b n => .tup [.str wMany, .str (sdW b), .int n]
def Tst.ok (w : Nat) : Tst → Prop
  | .eq _ i j => i < w ∧ j < w
  | .twin _ i k => i < k ∧ k < w
  | .many _ n => 1 ≤ n ∧ n ≤ w
structure Rul where
  mark : Option Nat
  tests : List Tst
  deeds : List Nat
  after : Nat
def Rul.e (r : Rul) : EV := .tup [optN r.mark, .tup (r.tests.map Tst.e), .str r.deeds, .int r.after]
def uL (s : List Nat) : Nat := s.count 107 + s.count 100
def uR (s : List Nat) : Nat := s.count 107 + s.count 112
def shown (ts : List Tst) : List Nat → Nat → Nat → Prop
  | [], _, _ => True
  | c :: s, i, j => (c = 107 → Tst.eq true i j ∈ ts) ∧ shown ts s (mvI i c) (mvJ j c)
structure Rul.ok (w m : Nat) (r : Rul) : Prop where
  mks : ∀ k, r.mark = some k → k < m
  af : r.after < m
  tl : r.tests.length ≤ 4
  ts : ∀ t ∈ r.tests, t.ok w
  st : StepC r.deeds
  dp : 1 ≤ r.deeds.length
  dl : r.deeds.length ≤ 4
  ul : uL r.deeds ≤ w
  ur : uR r.deeds ≤ w
  sh : shown r.tests r.deeds 0 0
end Y

namespace Y
open PySem PySem.Spec PyProof.Rows L2

structure Bk where
  w : Nat
  m : Nat
  rs : List Rul
structure Bk.ok (b : Bk) : Prop where
  w1 : 1 ≤ b.w
  w4 : b.w ≤ 4
  m1 : 1 ≤ b.m
  m3 : b.m ≤ 3
  rl : b.rs.length ≤ 8
  ro : ∀ r ∈ b.rs, r.ok b.w b.m
def Bk.e (b : Bk) : EV := .tup (b.rs.map Rul.e)
def rowOf (b : Bool) (l r : List Int) : List Int := if b then l else r
def Tst.holds (l r : List Int) : Tst → Bool
  | .eq s i j => decide (i < l.length) && (decide (j < r.length) && (decide (l.getD i 0 = r.getD j 0) == s))
  | .twin b i k => decide (k < (rowOf b l r).length) && decide ((rowOf b l r).getD i 0 = (rowOf b l r).getD k 0)
  | .many b n => decide (n ≤ (rowOf b l r).length)
def Rul.can (r : Rul) (mk : Nat) (wl wr : List Int) : Bool := (decide (r.mark = none) || decide (r.mark = some mk)) && (decide (uL r.deeds ≤ wl.length) && (decide (uR r.deeds ≤ wr.length) && r.tests.all fun t => t.holds wl wr))
end Y

namespace Y
open PySem PySem.Spec PyProof.Rows L2

def DSX (h : EH) (k : Nat) (v : EV) (d : PyData) : Prop := DatX h v d ∧ d.showable = true ∧ d.leavesShort 13 = true ∧ d.weight ≤ k
theorem DSX.fits {h : EH} {k : Nat} {v : EV} {d : PyData} (x : DSX h k v d) (hk : k ≤ 2 ^ 20) : d.showable = true ∧ d.shown.length ≤ sizeLine := ⟨x.2.1, PyData.shown_fits (by decide) (by decide) x.2.2.1 (Nat.le_trans x.2.2.2 hk)⟩
theorem DS.x {h : EH} {n k : Nat} {v : EV} {d : PyData} (x : DS h n k v d) (hn : n ≤ 55) : DSX h k v d := ⟨.el (.pl (Dat.deep x.1 hn)), x.2⟩
def DSK (h : EH) (k : Nat) (kvs : List (EV × EV)) (ps : List (L2.Key × PyData)) : Prop := DKV h kvs ps ∧ PyData.showableKv (ps.map fun p => (kD p.1, p.2)) = true ∧ PyData.leavesShortKv 13 (ps.map fun p => (kD p.1, p.2)) = true ∧ PyData.weightKv (ps.map fun p => (kD p.1, p.2)) ≤ k
theorem DSK.nil {h : EH} {k : Nat} : DSK h k [] [] := ⟨.nil, by simp [PyData.showableKv], by simp [PyData.leavesShortKv], by simp [PyData.weightKv]⟩
theorem DSK.int {h : EH} {n a b : Nat} {i : Int} {v : EV} {d : PyData} {r : List (EV × EV)} {ps : List (L2.Key × PyData)} (hi : i.natAbs < 10 ^ 12) (x : DS h n a v d) (hn : n ≤ 50) (f : flatD d = true) (z : DSK h b r ps) : DSK h (41 + a + 2 + b) ((.int i, v) :: r) ((.inl i, d) :: ps) := by
  have y := DS.int (h := h) (n := 0) (k := 41) hi (Nat.le_refl _)
  have ek : kD (.inl i) = .int i := rfl
  refine ⟨.int (Dat.deep x.1 hn) f z.1, ?_, ?_, ?_⟩
  · simp only [List.map_cons, PyData.showableKv, ek, x.2.1, z.2.1, y.2.1, Bool.and_self]
  · simp only [List.map_cons, PyData.leavesShortKv, ek, x.2.2.1, z.2.2.1, y.2.2.1, Bool.and_self]
  · simp only [List.map_cons, PyData.weightKv, ek]
    have := x.2.2.2
    have := y.2.2.2
    have := z.2.2.2
    omega
theorem DSK.dic {h : EH} {k r : Nat} {kvs : List (EV × EV)} {ps : List (L2.Key × PyData)} (e : h[r]? = some (.dic kvs)) (x : DSK h k kvs ps) : DatE h (.ref r) (dicD ps) ∧ (dicD ps).showable = true ∧ (dicD ps).leavesShort 13 = true ∧ (dicD ps).weight ≤ k := by
  refine ⟨.dic e x.1, ?_, ?_, ?_⟩
  · simpa only [dicD, PyData.showable] using x.2.1
  · simpa only [dicD, PyData.leavesShort] using x.2.2.1
  · simpa only [dicD, PyData.weight] using x.2.2.2
theorem DSK.x {h : EH} {k r : Nat} {kvs : List (EV × EV)} {ps : List (L2.Key × PyData)} (e : h[r]? = some (.dic kvs)) (x : DSK h k kvs ps) : DSX h k (.ref r) (dicD ps) := ⟨.el (x.dic e).1, (x.dic e).2⟩
end Y

namespace Y
open PySem PySem.Spec PyProof.Rows L2

abbrev LKV := List (Nat × Int)
def lnKV (l : LKV) : List (EV × EV) := l.map fun q => (.int q.1, .int q.2)
def lk (l : LKV) (i : Nat) : Option Int := l.lookup i
def lnE : Option Nat → EV
  | none => .non
  | some n => .int n
structure LaneAt (ad : Ad) (h : EH) (p d : Nat) (l : LKV) (n : Option Nat) : Prop where
  o : h[p]? = some (.slo ad.a_Lane [some (lnE n), some (.ref d)])
  d : h[d]? = some (.dic (lnKV l))
theorem LaneAt.keep {ad : Ad} {h h' : EH} {p d : Nat} {l : LKV} {n : Option Nat} (z : LaneAt ad h p d l n) (k : Keep no1 h h') : LaneAt ad h' p d l n := ⟨k.at z.o, k.at z.d⟩
theorem lk_nil (i : Nat) : lk [] i = none := rfl
theorem lk_cons (q : Nat × Int) (l : LKV) (i : Nat) : lk (q :: l) i = if q.1 = i then some q.2 else lk l i := by
  unfold lk
  rw [List.lookup_cons]
  by_cases e : q.1 = i
  · have : (i == q.1) = true := by simp [e]
    rw [this, if_pos e]
  · have : (i == q.1) = false := by simp; exact fun z => e z.symm
    rw [this, if_neg e]
abbrev lkeys (l : LKV) : List Nat := l.map (·.1)
theorem lk_none {l : LKV} {i : Nat} : lk l i = none ↔ i ∉ lkeys l := by
  induction l with
  | nil => simp [lk_nil]
  | cons q l ih =>
    rw [lk_cons]
    simp only [List.map_cons, List.mem_cons, not_or]
    by_cases e : q.1 = i
    · simp [e]
    · rw [if_neg e, ih]
      exact ⟨fun z => ⟨fun y => e y.symm, z⟩, fun z => z.2⟩
theorem lk_isSome {l : LKV} {i : Nat} : (lk l i).isSome = true ↔ i ∈ lkeys l := by
  have := lk_none (l := l) (i := i)
  cases h : lk l i with
  | none => simpa [h] using this
  | some x => simpa [h] using this
structure LOk (l : LKV) (n : Option Nat) : Prop where
  nd : (lkeys l).Nodup
  rg : ∀ q ∈ l, q.1 < 200 ∧ 0 ≤ q.2 ∧ q.2 ≤ 2000000000
  sz : l.length < 64
  le : ∀ m, n = some m → m < 1000 ∧ ∀ q ∈ l, q.1 < m
theorem sub_len : ∀ {a b : List Nat}, a.Nodup → (∀ x ∈ a, x ∈ b) → a.length ≤ b.length
  | [], _, _, _ => Nat.zero_le _
  | x :: a, b, nd, h => by
    rw [List.nodup_cons] at nd
    have hx := h x List.mem_cons_self
    have := sub_len (a := a) (b := b.erase x) nd.2 fun y hy => (List.mem_erase_of_ne (fun z => nd.1 (by rw [← z]; exact hy))).mpr (h y (List.mem_cons_of_mem _ hy))
    rw [List.length_erase_of_mem hx] at this
    have := List.length_pos_of_mem hx
    rw [List.length_cons]
    omega
def IsHead (l : LKV) (xs : List Int) : Prop := (∀ i, i < xs.length → lk l i = xs[i]?) ∧ lk l xs.length = none
theorem IsHead.le {l : LKV} {xs : List Int} (z : IsHead l xs) {ys : List Int} (y : IsHead l ys) : xs.length ≤ ys.length := by
  rcases Nat.lt_or_ge ys.length xs.length with h | h
  · have := z.1 _ h
    rw [y.2, List.getElem?_eq_getElem h] at this
    cases this
  · exact h
theorem head_len {l : LKV} {n : Nat} (h : ∀ i, i < n → (lk l i).isSome = true) : n ≤ l.length := by
  have := sub_len (a := List.range n) (b := lkeys l) List.nodup_range fun x hx => lk_isSome.mp (h x (by simpa using hx))
  simpa using this
theorem IsHead.len {l : LKV} {xs : List Int} (z : IsHead l xs) : xs.length ≤ l.length := head_len fun i hi => by
  rw [z.1 i hi, List.getElem?_eq_getElem hi]; rfl
theorem IsHead.whole {l : LKV} {xs : List Int} {m : Nat} (z : IsHead l xs) (nd : (lkeys l).Nodup) (hm : ∀ q ∈ l, q.1 < m) : xs.length = m ↔ l.length = m := by
  have hl : l.length ≤ m := by
    have := sub_len (a := lkeys l) (b := List.range m) nd fun x hx => by
      obtain ⟨q, hq, rfl⟩ := List.mem_map.mp hx
      exact List.mem_range.mpr (hm q hq)
    simpa using this
  have h1 := z.len
  constructor
  · intro e; omega
  · intro e
    rcases Nat.lt_or_ge xs.length m with h | h
    · exfalso
      have hn := lk_none.mp z.2
      have := sub_len (a := xs.length :: lkeys l) (b := List.range m) (List.nodup_cons.mpr ⟨hn, nd⟩) fun x hx => by
        rcases List.mem_cons.mp hx with rfl | hx
        · exact List.mem_range.mpr h
        · obtain ⟨q, hq, rfl⟩ := List.mem_map.mp hx
          exact List.mem_range.mpr (hm q hq)
      simp at this
      omega
    · omega
abbrev GS := List (Nat × Nat) × Option Nat
def gstep (l : LKV) (s : GS) (i : Nat) : GS := if (lk l i).isSome = true then match s.2 with
    | some b => (s.1 ++ [(b, i)], none)
    | none => s
  else match s.2 with
    | some _ => s
    | none => (s.1, some i)
def gfold (l : LKV) (n : Nat) : GS := (List.range n).foldl (gstep l) ([], none)
def gaps (l : LKV) (n : Nat) : List (Nat × Nat) := match gfold l n with
  | (f, some b) => f ++ [(b, n)]
  | (f, none) => f
def lnD (l : LKV) : List (L2.Key × PyData) := l.map fun q => (.inl (q.1 : Int), .int q.2)
end Y

namespace Y
open PySem PySem.Spec PyProof.Rows L2

end Y

namespace Y
open PySem PySem.Spec PyProof.Rows L2

def Bk.deed (b : Bk) (mk : Nat) (l r : List Int) : Option (List Nat × Nat) :=
  match b.rs.find? fun x => x.can mk l r with
  | some x => some (x.deeds, x.after)
  | none => if b.w ≤ l.length then some ([100], mk) else if b.w ≤ r.length then some ([112], mk) else none
def Bk.spk (b : Bk) : Nat → Nat → List Int → List Int → List Nat × Nat × List Int × List Int
  | 0, k, l, r => ([], k, l, r)
  | n + 1, k, l, r => match b.deed k l r with
    | none => ([], k, l, r)
    | some d => (d.1 ++ (b.spk n d.2 (l.drop (uL d.1)) (r.drop (uR d.1))).1, (b.spk n d.2 (l.drop (uL d.1)) (r.drop (uR d.1))).2)
theorem Bk.spk_none {b : Bk} {k : Nat} {l r : List Int} (e : b.deed k l r = none) (n : Nat) : b.spk (n + 1) k l r = ([], k, l, r) := by
  rw [Bk.spk, e]
theorem Bk.spk_some {b : Bk} {k : Nat} {l r : List Int} {d : List Nat × Nat} (e : b.deed k l r = some d) (n : Nat) : b.spk (n + 1) k l r = (d.1 ++ (b.spk n d.2 (l.drop (uL d.1)) (r.drop (uR d.1))).1, (b.spk n d.2 (l.drop (uL d.1)) (r.drop (uR d.1))).2) := by
  rw [Bk.spk, e]
theorem uL_app (a b : List Nat) : uL (a ++ b) = uL a + uL b := by simp [uL]; omega
theorem uR_app (a b : List Nat) : uR (a ++ b) = uR a + uR b := by simp [uR]; omega
theorem uses_pos : ∀ {s : List Nat}, StepC s → s.length ≤ uL s + uR s
  | [], _ => by simp
  | c :: s, h => by
    have ih := uses_pos (s := s) fun x hx => h x (by simp [hx])
    have e1 : uL (c :: s) = uL [c] + uL s := uL_app [c] s
    have e2 : uR (c :: s) = uR [c] + uR s := uR_app [c] s
    have : 1 ≤ uL [c] + uR [c] := by
      rcases h c (by simp) with rfl | rfl | rfl <;> decide
    simp only [List.length_cons]
    omega
structure DeedOk (b : Bk) (l r : List Int) (d : List Nat × Nat) : Prop where
  ul : uL d.1 ≤ l.length
  ur : uR d.1 ≤ r.length
  po : 1 ≤ uL d.1 + uR d.1
  st : StepC d.1
  ln : d.1.length ≤ 4
theorem Bk.deed_ok {b : Bk} (ok : b.ok) {mk : Nat} {l r : List Int} {d : List Nat × Nat} (e : b.deed mk l r = some d) : DeedOk b l r d := by
  unfold Bk.deed at e
  have w1 := ok.w1
  split at e
  · rename_i x hx
    cases e
    have hm := List.mem_of_find?_eq_some hx
    have hc : x.can mk l r = true := by simpa using List.find?_some hx
    have ro := ok.ro x hm
    simp only [Rul.can, Bool.and_eq_true, decide_eq_true_eq] at hc
    have := uses_pos ro.st
    have := ro.dp
    exact ⟨hc.2.1, hc.2.2.1, by show 1 ≤ uL x.deeds + uR x.deeds; omega, ro.st, ro.dl⟩
  · split at e
    · cases e
      exact ⟨by show 1 ≤ _; omega, by show 0 ≤ _; omega, by show 1 ≤ 1; omega, by intro c hc; simp at hc; subst hc; exact .inr (.inl rfl), by simp⟩
    · split at e
      · cases e
        exact ⟨by show 0 ≤ _; omega, by show 1 ≤ _; omega, by show 1 ≤ 1; omega, by intro c hc; simp at hc; subst hc; exact .inr (.inr rfl), by simp⟩
      · cases e
end Y

namespace Y
open PySem PySem.Spec PyProof.Rows L2

def ins1 (acc : List Int) (x : Int) : List Int := if x ∈ acc then acc else acc ++ [x]
def nub (ls : List Int) : List Int := ls.foldl ins1 []
def uni (p : Int × Int) (ks : List Int) : Tab := ks.map fun x => (x, p)
theorem nub_foldl_mem (ls : List Int) : ∀ acc : List Int, ∀ x, x ∈ ls.foldl ins1 acc ↔ x ∈ acc ∨ x ∈ ls := by
  induction ls with
  | nil => intro acc x; simp
  | cons y ls ih =>
    intro acc x
    rw [List.foldl_cons, ih]
    unfold ins1
    split
    · rename_i h
      constructor
      · rintro (a | a)
        · exact .inl a
        · exact .inr (by simp [a])
      · rintro (a | a)
        · exact .inl a
        · rcases List.mem_cons.mp a with rfl | a
          · exact .inl h
          · exact .inr a
    · simp [or_assoc]
theorem nub_mem {ls : List Int} {x : Int} : x ∈ nub ls ↔ x ∈ ls := by
  unfold nub; rw [nub_foldl_mem]; simp
theorem nub_foldl_nd (ls : List Int) : ∀ acc : List Int, acc.Nodup → (ls.foldl ins1 acc).Nodup := by
  induction ls with
  | nil => intro acc h; exact h
  | cons y ls ih =>
    intro acc h
    rw [List.foldl_cons]
    refine ih _ ?_
    unfold ins1
    split
    · exact h
    · rename_i hy
      rw [List.nodup_append]
      exact ⟨h, by simp, by intro a ha b hb; simp at hb; subst hb; exact fun e => hy (e ▸ ha)⟩
theorem nub_nd (ls : List Int) : (nub ls).Nodup := nub_foldl_nd ls [] (by simp)
theorem uni_ok {p : Int × Int} {ks : List Int} (nd : ks.Nodup) (rg : ∀ x ∈ ks, 0 ≤ x ∧ x ≤ 1000000000) (h1 : 1 ≤ p.1 ∧ p.1 ≤ 9) (h2 : 1 ≤ p.2 ∧ p.2 ≤ 9) : TabOk (uni p ks) := by
  refine ⟨by unfold uni; rw [List.map_map]; simpa [Function.comp_def] using nd, fun q hq => ?_⟩
  obtain ⟨x, hx, rfl⟩ := List.mem_map.mp hq
  exact ⟨rg x hx, h1, h2⟩
structure PrOk (p : Int × Int) : Prop where
  a1 : 1 ≤ p.1
  a9 : p.1 ≤ 9
  b1 : 1 ≤ p.2
  b9 : p.2 ≤ 9
structure LsOk (ls : List Int) : Prop where
  ln : ls.length ≤ 2000
  rg : ∀ x ∈ ls, 0 ≤ x ∧ x ≤ 1000000000
  nb : (nub ls).length < 64
theorem LsOk.tab {ls : List Int} (z : LsOk ls) {p : Int × Int} (pk : PrOk p) : TabOk (uni p (nub ls)) :=
  uni_ok (nub_nd ls) (fun x hx => z.rg x (nub_mem.mp hx)) ⟨pk.a1, pk.a9⟩ ⟨pk.b1, pk.b9⟩
def uniW (p : Int × Int) (g : Prom) (l r : List Int) : Wd := ⟨l, r, prTab (uni p (nub (l ++ r))), g⟩
end Y

namespace Y
open PySem PySem.Spec PyProof.Rows L2

structure Sp where
  b : Bk
  p : Int × Int
  k : Nat
  l : List Int
  r : List Int
  s : List Nat
def Sp.said (u : Sp) (x y : Int) : List Nat × Nat × List Int × List Int := u.b.spk ((u.l ++ [x]).length + (u.r ++ [y]).length + 1) u.k (u.l ++ [x]) (u.r ++ [y])
def Sp.tick (u : Sp) (x y : Int) : Sp := { u with k := (u.said x y).2.1, l := (u.l ++ [x]).drop (uL (u.said x y).1), r := (u.r ++ [y]).drop (uR (u.said x y).1), s := u.s ++ (u.said x y).1 }
def Sp.close (u : Sp) : List Nat := (uniW u.p .none u.l u.r).first
structure Sp.ok (u : Sp) : Prop where
  bo : u.b.ok
  po : PrOk u.p
  lo : LsOk (u.l ++ u.r)
  ll : u.l.length ≤ 900
  rl : u.r.length ≤ 900
  sl : u.s.length ≤ 10000
structure SpkOk (l r : List Int) (x : List Nat × Nat × List Int × List Int) : Prop where
  st : StepC x.1
  ul : uL x.1 ≤ l.length
  ur : uR x.1 ≤ r.length
  el : x.2.2.1 = l.drop (uL x.1)
  er : x.2.2.2 = r.drop (uR x.1)
theorem Bk.spk_ok {b : Bk} (ok : b.ok) : ∀ (n k : Nat) (l r : List Int), SpkOk l r (b.spk n k l r)
  | 0, k, l, r => ⟨fun c hc => by simp [Bk.spk] at hc, by simp [Bk.spk, uL], by simp [Bk.spk, uR], by simp [Bk.spk, uL], by simp [Bk.spk, uR]⟩
  | n + 1, k, l, r => by
    cases ed : b.deed k l r with
    | none =>
      rw [Bk.spk_none ed]
      exact ⟨fun c hc => by simp at hc, by simp [uL], by simp [uR], by simp [uL], by simp [uR]⟩
    | some d =>
      rw [Bk.spk_some ed]
      have z := Bk.spk_ok ok n d.2 (l.drop (uL d.1)) (r.drop (uR d.1))
      have dk := Bk.deed_ok ok ed
      have d1 := dk.ul
      have d2 := dk.ur
      have z1 := z.ul
      have z2 := z.ur
      rw [List.length_drop] at z1 z2
      refine ⟨fun c hc => ?_, ?_, ?_, ?_, ?_⟩
      · rcases List.mem_append.mp hc with hc | hc
        · exact dk.st c hc
        · exact z.st c hc
      · rw [uL_app]; omega
      · rw [uR_app]; omega
      · rw [z.el, List.drop_drop, uL_app]
      · rw [z.er, List.drop_drop, uR_app]
theorem SpkOk.len {l r : List Int} {x : List Nat × Nat × List Int × List Int} (z : SpkOk l r x) : x.1.length ≤ l.length + r.length := by
  have := uses_pos z.st
  have := z.ul
  have := z.ur
  omega
structure CloseOk (l r : List Int) (s : List Nat) : Prop where
  wr : wrg l r s 0 0 0 = none
  st : StepC s
  ln : s.length ≤ l.length + r.length
end Y

namespace Y
open PySem PySem.Spec PyProof.Rows L2

def Sp.start (b : Bk) (p : Int × Int) : Sp := ⟨b, p, 0, [], [], []⟩
def Sp.run (u : Sp) (zs : List (Int × Int)) : Sp := zs.foldl (fun u z => u.tick z.1 z.2) u
structure SpOk (u : Sp) (a : List (Int × Int)) : Prop where
  el : u.l = (a.map (·.1)).drop (uL u.s)
  er : u.r = (a.map (·.2)).drop (uR u.s)
  ul : uL u.s ≤ a.length
  ur : uR u.s ≤ a.length
  st : StepC u.s
theorem SpOk.tick {u : Sp} {a : List (Int × Int)} (ok : u.b.ok) (z : SpOk u a) (x y : Int) : SpOk (u.tick x y) (a ++ [(x, y)]) := by
  have k : SpkOk (u.l ++ [x]) (u.r ++ [y]) (u.said x y) := Bk.spk_ok ok _ _ _ _
  have h1 := k.ul
  have h2 := k.ur
  have h3 := z.ul
  have h4 := z.ur
  have e1 := congrArg List.length z.el
  have e2 := congrArg List.length z.er
  simp only [List.length_drop, List.length_map, List.length_append, List.length_cons, List.length_nil] at e1 e2 h1 h2
  refine ⟨?_, ?_, ?_, ?_, ?_⟩
  · show (u.l ++ [x]).drop (uL (u.said x y).1) = _
    have e : ((a ++ [(x, y)]).map (·.1)).drop (uL u.s) = u.l ++ [x] := by
      rw [List.map_append, List.drop_append_of_le_length (by simpa using h3), ← z.el]; rfl
    rw [show (u.tick x y).s = u.s ++ (u.said x y).1 from rfl, uL_app, ← List.drop_drop, e]
  · show (u.r ++ [y]).drop (uR (u.said x y).1) = _
    have e : ((a ++ [(x, y)]).map (·.2)).drop (uR u.s) = u.r ++ [y] := by
      rw [List.map_append, List.drop_append_of_le_length (by simpa using h4), ← z.er]; rfl
    rw [show (u.tick x y).s = u.s ++ (u.said x y).1 from rfl, uR_app, ← List.drop_drop, e]
  · show uL (u.s ++ _) ≤ _
    rw [uL_app]; simp; omega
  · show uR (u.s ++ _) ≤ _
    rw [uR_app]; simp; omega
  · intro c hc
    rcases List.mem_append.mp hc with hc | hc
    · exact z.st c hc
    · exact k.st c hc
theorem keep_new {h h1 h2 : EH} {r : Nat} (k0 : Keep no1 h h1) (k : Keep (is1 r) h1 h2) (hr : h.length ≤ r) : Keep no1 h h2 := by
  refine ⟨Nat.le_trans k0.1 k.1, fun i o ho _ => k.2 i o (k0.at ho) ?_⟩
  have := lt_of_at ho
  simp [is1]
  omega
theorem LsOk.sub {a b : List Int} (z : LsOk b) (h : ∀ x ∈ a, x ∈ b) (hl : a.length ≤ 2000) : LsOk a :=
  ⟨hl, fun x hx => z.rg x (h x hx), Nat.lt_of_le_of_lt ((nub_nd a).length_le_of_subset fun x hx => nub_mem.mpr (h x (nub_mem.mp hx))) z.nb⟩
end Y

namespace Y
open PySem PySem.Spec PyProof.Rows L2

end Y

namespace Y
open PySem PySem.Spec PyProof.Rows L2

end Y

namespace Y
open PySem PySem.Spec PyProof.Rows L2

end Y

namespace Y
open PySem PySem.Spec PyProof.Rows L2

end Y

namespace Y
open PySem PySem.Spec PyProof.Rows L2

end Y

namespace Y
open PySem PySem.Spec PyProof.Rows L2

abbrev RowS := List Nat × Nat × List Int × List Int
def Bk.nxt (b : Bk) (x : RowS) (z : Int × Int) : RowS := b.spk ((x.2.2.1 ++ [z.1]).length + (x.2.2.2 ++ [z.2]).length + 1) x.2.1 (x.2.2.1 ++ [z.1]) (x.2.2.2 ++ [z.2])
def Bk.rows (b : Bk) : List (Int × Int) → RowS → List RowS
  | [], x => [x]
  | z :: zs, x => x :: b.rows zs (b.nxt x z)
end Y

namespace Y
open PySem PySem.Spec PyProof.Rows L2

end Y

namespace Y
open PySem PySem.Spec PyProof.Rows L2

end Y

namespace Y
open PySem PySem.Spec PyProof.Rows L2

def restV (p : Int × Int) (l r : List Int) (i j : Nat) : Int := ((uniW p .none l r).rest i j).getD 0
def v1 (n m i j : Nat) : List Int := if decide (i = n) && decide (j = m) then [0] else []
def v2 (p : Int × Int) (l r : List Int) (i j : Nat) : List Int := if (decide (i < l.length) && (decide (j < r.length) && decide (l.getD i 0 = r.getD j 0))) = true then [restV p l r (i + 1) (j + 1)] else []
def v3 (p : Int × Int) (l r : List Int) (i j : Nat) : List Int := if decide (i < l.length) = true then [restV p l r (i + 1) j + p.1] else []
end Y

namespace Y
open PySem PySem.Spec PyProof.Rows L2

end Y

namespace Y
open PySem PySem.Spec PyProof.Rows L2

end Y

namespace Y
open PySem PySem.Spec PyProof.Rows L2

end Y

namespace Y
open PySem PySem.Spec PyProof.Rows L2

theorem one_new {ad : Ad} {h : EH} {b : Nat} {xs : List EV} {P : EK} (B : BagAt h b) (ne : xs ≠ []) (hl : xs.length ≤ 1000) (p : ∀ x h', x ∈ xs → Keep (is1 b) h h' → BagAt h' b → P x h') : sp__law_one ad [.ref b, .ref h.length] (h ++ [.lst xs]) P :=
  ⟨b, h.length, xs, rfl, new_at, ne, by rw [sizeL]; omega, by have := B.lt; omega, B.keep (Keep.app _), fun x h' hx k B' => p x h' hx ((Keep.app _).trans k) B'⟩
theorem take_n {ad : Ad} {h : EH} {b : Nat} (n : Nat) {m : Int} {P : EK} (B : BagAt h b) (e : m = (n : Nat)) (h0 : 0 < n) (h1 : n < 1000000) (p : ∀ (d : Nat) h', d < n → Keep (is1 b) h h' → BagAt h' b → P (.int d) h') : sp__law_take ad [.ref b, .int m] h P := by
  refine ⟨b, m, rfl, by omega, by omega, B, fun d h' d0 d1 k B' => ?_⟩
  obtain ⟨d, rfl⟩ := Int.eq_ofNat_of_zero_le d0
  exact p d h' (by omega) k B'
end Y

namespace Y
open PySem PySem.Spec PyProof.Rows L2

end Y

namespace Y
open PySem PySem.Spec PyProof.Rows L2

end Y

namespace Y
open PySem PySem.Spec PyProof.Rows L2

theorem lc_bag {V : EV → Prop} {b : Nat} {g : EH → Prop} {p : Pat} {te : LT} {env : En} {P : EK} {h : EH} (xs : List EV) (B : BagAt h b) (hl : xs.length ≤ 1000000) (hg : ∀ h', Keep (is1 b) h h' → g h')
    (step : ∀ x ∈ xs, ∀ h' (ky : EK), Keep (is1 b) h h' → BagAt h' b → (∀ v h2, V v → Keep (is1 b) h' h2 → BagAt h2 b → ky v h2) → lBind h' p x env fun env2 => te env2 h' ky)
    (fin : ∀ (vs : List EV) h', vs.length = xs.length → (∀ v ∈ vs, V v) → Keep (is1 b) h h' → BagAt h' b → h'[h.length]? = some (.lst vs) → P (.ref h.length) h') : lcE g p lYes te h.length env P xs (h ++ [.lst []]) := by
  have hb := B.lt
  refine lc_ind (fun left acc h' => Keep (is1 b) h h' ∧ BagAt h' b ∧ (∀ v ∈ acc, V v) ∧ acc.length + left.length = xs.length ∧ ∀ x ∈ left, x ∈ xs) ?stop ?turn _ [] _ new_at ⟨Keep.app _, B.keep (Keep.app _), by simp, by simp, fun x hx => hx⟩
  case stop =>
    rintro acc h' ⟨k, B', hv, hn, _⟩ e
    exact ⟨hg _ k, fin acc h' (by simpa using hn) hv k B' e⟩
  case turn =>
    rintro x left acc h' ky kn ⟨k, B', hv, hn, hm⟩ e hky hkn
    simp only [List.length_cons] at hn
    refine ⟨hg _ k, ?_⟩
    have q := step x (hm x List.mem_cons_self) h' ky k B' fun v h2 v1 k2 B2 => hky v h2 (k2.other e (by omega)) (by rw [sizeL]; omega)
      ⟨(k.trans k2).fresh (Nat.le_refl _), B2.set hb, fun y hy => by
        rcases List.mem_append.mp hy with hy | hy
        · exact hv y hy
        · rw [List.mem_singleton.mp hy]; exact v1, by simp; omega, fun y hy => hm y (List.mem_cons_of_mem _ hy)⟩
    unfold lBind at q ⊢
    split at q
    · simpa [lYes] using q
    · exact q.elim
def ScV (n : Nat) (v : EV) : Prop := ∃ s : List Nat, v = .str s ∧ StepC s ∧ s.length ≤ n
theorem ScV.up {n m : Nat} {v : EV} (x : ScV n v) (h : n ≤ m) : ScV m v := by
  obtain ⟨s, e, a, c⟩ := x
  exact ⟨s, e, a, Nat.le_trans c h⟩
theorem off_l {h : EH} {R r : Nat} {xs : List EV} {o u : EO} (eR : h[R]? = some (.lst xs)) (e : h[r]? = some o) (n : ∀ ys, o ≠ .lst ys) : (h.set R u)[r]? = some o := by
  refine set_off e fun z => ?_
  subst z
  rw [eR] at e
  cases e
  exact n _ rfl
theorem PrAt.off {ad : Ad} {h : EH} {R r : Nat} {xs : List EV} {u : EO} {c : Tab} (p : PrAt ad h r c) (eR : h[R]? = some (.lst xs)) : PrAt ad (h.set R u) r c := by
  obtain ⟨d, e1, e2⟩ := p
  exact ⟨d, off_l eR e1 (fun _ z => by cases z), off_l eR e2 (fun _ z => by cases z)⟩
end Y

namespace Y
open PySem PySem.Spec PyProof.Rows L2

theorem next_go {f : En → EH → Prop} {rt : EK} {c k : En → EH → Prop} {env : En} {h : EH} (p : f env h) : lNext (LEnds.mk f rt c k) env h := p
def kb4 : Rul := ⟨none, [.eq true 2 0], [100, 100], 0⟩
end Y

namespace Y
open PySem PySem.Spec PyProof.Rows L2

def Kn (h : EH) (v : EV) : Prop := (∃ t, ∀ h', Keep no1 h h' → tyE v h' = some t) ∧ ∀ xs, v ≠ .ktup xs
theorem Kn.keep {h h' : EH} {v : EV} (z : Kn h v) (k : Keep no1 h h') : Kn h' v := ⟨let ⟨t, a⟩ := z.1; ⟨t, fun h2 k2 => a h2 (k.trans k2)⟩, z.2⟩
theorem Kn.ty {h : EH} {v : EV} (z : Kn h v) : ∃ t, tyE v h = some t := let ⟨t, a⟩ := z.1; ⟨t, a h .refl⟩
structure Kd (h : EH) (v : EV) : Prop where
  k : Kn h v
  s : ∀ xs, v = .tup xs → xs.length ≤ 1000 ∧ ∀ x ∈ xs, Kn h x ∧ ∀ ys, x = .tup ys → ys.length ≤ 1000 ∧ ∀ y ∈ ys, Kn h y
theorem Kd.keep {h h' : EH} {v : EV} (z : Kd h v) (k : Keep no1 h h') : Kd h' v := ⟨z.k.keep k, fun xs e => ⟨(z.s xs e).1, fun x hx => ⟨((z.s xs e).2 x hx).1.keep k, fun ys e2 => ⟨(((z.s xs e).2 x hx).2 ys e2).1, fun y hy => ((((z.s xs e).2 x hx).2 ys e2).2 y hy).keep k⟩⟩⟩⟩
def letB (v : EV) : Bool := isBt v 0 1000000000
def textB : EV → Bool
  | .tup xs => xs.all letB
  | _ => false
def notMt : EV → Bool
  | .tup [] => false
  | _ => true
def deedB : EV → Bool
  | .tup [.str s, w] => if s = sPut then textB w && notMt w else decide (s = sKeep ∨ s = sDrop) && isBt w 1 1000000000
  | _ => false
def sp_is_text_k94 (ad : Ad) : LSp := fun evs h Q => ∃ v : EV, evs = [v] ∧ Kn h v ∧ (∀ xs, v = .tup xs → xs.length ≤ 1000 ∧ ∀ x ∈ xs, Kn h x) ∧ ∀ h', Keep no1 h h' → Q (.bl (textB v)) h'
def sp_is_deed_k94 (ad : Ad) : LSp := fun evs h Q => ∃ v : EV, evs = [v] ∧ Kd h v ∧ ∀ h', Keep no1 h h' → Q (.bl (deedB v)) h'
abbrev N_is_text_k94 : List Str := ["thing", "one"]
def t_is_text_k94 (ad : Ad) : LS :=
    lRet (lAndV (lCB isiE (lCons (lVar 0) (lCons (lC (.ty "tuple")) (lNil)))) (lCB allE (lCons (lLc (lIt (lVar 0)) (.nm 1) (lYes) (lCall (sp_is_letter ad) (lCons (lVar 1) (lNil))) [1]) (lNil))))
abbrev N_is_deed_k94 : List Str := ["thing"]
def t_is_deed_k94 (ad : Ad) : LS :=
    lSeq (lIfS (lOr (lNot (lT (lCB isiE (lCons (lVar 0) (lCons (lC (.ty "tuple")) (lNil)))))) (lOr (lB (lOp (eqE true) (lCB lenE (lCons (lVar 0) (lNil))) (lC (.int 2)))) (lNot (lT (lCB isiE (lCons (lOp ixA (lVar 0) (lC (.int 0))) (lCons (lC (.ty "str")) (lNil))))))))
      (lRet (lC (.bl false)))
      (lNext)) <|
    lSeq (lIfS (lB (lOp (eqE false) (lOp ixA (lVar 0) (lC (.int 0))) (lC (.str [112, 117, 116]))))
      (lRet (lAndV (lCall (sp_is_text_k94 ad) (lCons (lOp ixA (lVar 0) (lC (.int 1))) (lNil))) (lOp (eqE true) (lOp ixA (lVar 0) (lC (.int 1))) (lTup (lNil)))))
      (lNext)) <|
    lRet (lAndV (lOp (inA false) (lOp ixA (lVar 0) (lC (.int 0))) (lTup (lCons (lC (.str [107, 101, 101, 112])) (lCons (lC (.str [100, 114, 111, 112])) (lNil))))) (lCall (sp_is_between ad) (lCons (lOp ixA (lVar 0) (lC (.int 1))) (lCons (lC (.int 1)) (lCons (lC (.int 1000000000)) (lNil))))))
theorem len_is_text_k94 (ad : Ad) (evs : List EV) (h : EH) (Q : EK) (q : sp_is_text_k94 ad evs h Q) : evs.length = ["thing"].length := by
  obtain ⟨_, rfl, _⟩ := q; rfl
theorem len_is_deed_k94 (ad : Ad) (evs : List EV) (h : EH) (Q : EK) (q : sp_is_deed_k94 ad evs h Q) : evs.length = ["thing"].length := by
  obtain ⟨_, rfl, _⟩ := q; rfl
theorem all_b {bs : List Bool} {r : Nat} {h : EH} {P : EK} (e : h[r]? = some (.lst (bs.map EV.bl))) (p : P (.bl (bs.all id)) h) : allE [.ref r] h P := by
  simp only [allE, quE, e]
  exact ⟨bs, rfl, p⟩
theorem isi_t {v : EV} {T : String} {h : EH} {P : EK} (z : ∃ t, tyE v h = some t) (hT : T = "int" ∨ T = "bool" ∨ T = "str" ∨ T = "tuple" ∨ T = "dict" ∨ T = "list") (p : ∀ t, tyE v h = some t → P (.bl (isiB t T)) h) : isiE [v, .ty T] h P := by
  obtain ⟨t, e⟩ := z
  simp only [isiE, e]
  exact ⟨hT, p t e⟩
theorem ty_tup {v : EV} {h : EH} {t : String} (e : tyE v h = some t) (nk : ∀ xs, v ≠ .ktup xs) : (isiB t "tuple" = true ∧ ∃ xs, v = .tup xs) ∨ (isiB t "tuple" = false ∧ ∀ xs, v ≠ .tup xs) := by
  unfold tyE at e
  split at e
  · cases e; exact .inr ⟨rfl, fun _ h => by cases h⟩
  · cases e; exact .inr ⟨rfl, fun _ h => by cases h⟩
  · cases e; exact .inr ⟨rfl, fun _ h => by cases h⟩
  · cases e; exact .inr ⟨rfl, fun _ h => by cases h⟩
  · split at e
    · cases e; exact .inr ⟨rfl, fun _ h => by cases h⟩
    · cases e; exact .inr ⟨rfl, fun _ h => by cases h⟩
    · cases e; exact .inr ⟨rfl, fun _ h => by cases h⟩
    · cases e
  · cases e; exact .inl ⟨rfl, _, rfl⟩
  · exact absurd rfl (nk _)
  · cases e
theorem ty_str {v : EV} {h : EH} {t : String} (e : tyE v h = some t) : (isiB t "str" = true ∧ ∃ s, v = .str s) ∨ (isiB t "str" = false ∧ ∀ s, v ≠ .str s) := by
  unfold tyE at e
  split at e
  · cases e; exact .inr ⟨rfl, fun _ h => by cases h⟩
  · cases e; exact .inr ⟨rfl, fun _ h => by cases h⟩
  · cases e; exact .inr ⟨rfl, fun _ h => by cases h⟩
  · cases e; exact .inl ⟨rfl, _, rfl⟩
  · split at e
    · cases e; exact .inr ⟨rfl, fun _ h => by cases h⟩
    · cases e; exact .inr ⟨rfl, fun _ h => by cases h⟩
    · cases e; exact .inr ⟨rfl, fun _ h => by cases h⟩
    · cases e
  · cases e; exact .inr ⟨rfl, fun _ h => by cases h⟩
  · cases e; exact .inr ⟨rfl, fun _ h => by cases h⟩
  · cases e
theorem fm_bl (f : EV → Bool) : ∀ xs : List EV, (xs.filterMap fun x => some (EV.bl (f x))) = (xs.map f).map EV.bl
  | [] => rfl
  | x :: xs => by rw [List.filterMap_cons]; exact congrArg (List.cons _) (fm_bl f xs)
theorem all_id (f : EV → Bool) (xs : List EV) : (xs.map f).all id = xs.all f := by simp [List.all_map, Function.comp_def]
theorem lc_keepI (y : EV → Option EV) {g : EH → Prop} {p : Pat} {tt : LTt} {te : LT} {env : En} {P : EK} {h : EH} (xs : List EV) (hl : xs.length ≤ 1000000) (hg : ∀ h', Keep no1 h h' → g h')
    (step : ∀ x ∈ xs, ∀ h' (ky : EK) (kn : EH → Prop), Keep no1 h h' → (∀ v, y x = some v → ∀ h2, Keep no1 h' h2 → ky v h2) → (y x = none → ∀ h2, Keep no1 h' h2 → kn h2) → lBind h' p x env fun env2 => tt env2 h' fun b h3 => if b = true then te env2 h3 ky else kn h3)
    (fin : ∀ h', Keep no1 h h' → h'[h.length]? = some (.lst (xs.filterMap y)) → P (.ref h.length) h') : lcE g p tt te h.length env P xs (h ++ [.lst []]) := by
  have := lc_keep (fun x => x) y (P := P) xs hl hg step fin
  rwa [List.map_id'] at this
theorem pure_is_text_k94 (ad : Ad) (evs : List EV) (h : EH) (Q : EK) (q : sp_is_text_k94 ad evs h Q) : t_is_text_k94 ad (endsOf Q) (startE N_is_text_k94 evs) h := by
  obtain ⟨v, rfl, kn, hs, q⟩ := q
  show t_is_text_k94 ad (endsOf Q) [some v, none] h
  unfold t_is_text_k94
  simp only [lSet, lRet, lRetN, lDrop, lOp, lVar, lC, lB, lT, lAnd, lOr, lNot, lIf, lAndV, lOrV, lNotV, lNil, lCons, lTup, lLst, lCB, lBM, lSl, lPart, lNext, lIt, lRng1, lRng2, lAsg, lPar, lSetI, lSetA, lAugS, lLc, lZip, lNeg, lCall, lChain, List.getElem?_cons_zero, List.getElem?_cons_succ, List.set_cons_zero, List.set_cons_succ, wipeE, intP, intE]
  refine isi_t kn.ty (by simp) fun t e => ?_
  rcases ty_tup e kn.2 with ⟨e1, xs, rfl⟩ | ⟨e1, nt⟩
  · rw [e1]
    simp only [truE, if_true]
    obtain ⟨hl, hx⟩ := hs xs rfl
    refine lc_keepI (fun x => some (.bl (letB x))) xs (by omega) (fun _ _ => trivial) (fun x hxm h' ky kn' k hy hn => ?_) fun h1 k1 e1 => ?_
    · refine bind_nm ?_
      simp only [List.set_cons_zero, List.set_cons_succ, lSet, lRet, lRetN, lDrop, lOp, lVar, lC, lB, lT, lAnd, lOr, lNot, lIf, lAndV, lOrV, lNotV, lNil, lCons, lTup, lLst, lCB, lBM, lSl, lPart, lNext, lIt, lRng1, lRng2, lAsg, lPar, lSetI, lSetA, lAugS, lLc, lZip, lNeg, lCall, lChain, List.getElem?_cons_zero, List.getElem?_cons_succ, List.set_cons_zero, List.set_cons_succ, wipeE, intP, intE, wipeE, lYes, if_true, lCall]
      obtain ⟨t', et⟩ := ((hx x hxm).keep k).ty
      exact ⟨x, t', rfl, et, hy _ rfl _ .refl⟩
    · rw [fm_bl] at e1
      refine all_b e1 ?_
      rw [all_id]
      exact q _ k1
  · rw [e1]
    simp only [truE, Bool.false_eq_true, if_false]
    have : textB v = false := by
      cases v <;> first | rfl | exact absurd rfl (nt _)
    rw [this] at q
    exact q _ .refl
theorem deedB_len {xs : List EV} (h : xs.length ≠ 2) : deedB (.tup xs) = false := by
  unfold deedB
  split
  · rename_i e
    cases e
    exact absurd rfl h
  · rfl
theorem deedB_ns {a b : EV} (h : ∀ s, a ≠ .str s) : deedB (.tup [a, b]) = false := by
  unfold deedB
  split
  · rename_i e
    cases e
    exact absurd rfl (h _)
  · rfl
theorem let_ints : ∀ {xs : List EV}, xs.all letB = true → ∃ ns : List Int, xs = ns.map EV.int
  | [], _ => ⟨[], rfl⟩
  | x :: xs, e => by
    rw [List.all_cons, Bool.and_eq_true] at e
    obtain ⟨ns, rfl⟩ := let_ints e.2
    cases x with
    | int i => exact ⟨i :: ns, rfl⟩
    | _ => cases e.1
theorem textB_ints {v : EV} (e : textB v = true) : ∃ ns : List Int, v = tx ns := by
  unfold textB at e
  split at e
  · obtain ⟨ns, rfl⟩ := let_ints e
    exact ⟨ns, rfl⟩
  · cases e
theorem pure_is_deed_k94 (ad : Ad) (evs : List EV) (h : EH) (Q : EK) (q : sp_is_deed_k94 ad evs h Q) : t_is_deed_k94 ad (endsOf Q) (startE N_is_deed_k94 evs) h := by
  obtain ⟨v, rfl, kd, q⟩ := q
  show t_is_deed_k94 ad (endsOf Q) [some v] h
  unfold t_is_deed_k94
  rw [lSeq, lIfS]
  simp only [lSet, lRet, lRetN, lDrop, lOp, lVar, lC, lB, lT, lAnd, lOr, lNot, lIf, lAndV, lOrV, lNotV, lNil, lCons, lTup, lLst, lCB, lBM, lSl, lPart, lNext, lIt, lRng1, lRng2, lAsg, lPar, lSetI, lSetA, lAugS, lLc, lZip, lNeg, lCall, lChain, List.getElem?_cons_zero, List.getElem?_cons_succ, List.set_cons_zero, List.set_cons_succ, wipeE, intP, intE, lOr, lNot, lT]
  refine isi_t kd.k.ty (by simp) fun t e => ?_
  rcases ty_tup e kd.k.2 with ⟨e1, xs, rfl⟩ | ⟨e1, nt⟩
  · rw [e1]
    obtain ⟨hl, hx⟩ := kd.s xs rfl
    simp only [truE, Bool.not_true, Bool.false_eq_true, if_false, lenE, eqE]
    by_cases l2 : xs.length = 2
    · obtain ⟨a, b, rfl⟩ : ∃ a b, xs = [a, b] := by
        match xs, l2 with
        | [a, b], _ => exact ⟨a, b, rfl⟩
      simp only [List.length_cons, List.length_nil, show (true ^^ decide (((0 + 1 + 1 : Nat) : Int) = 2)) = false from rfl, Bool.false_eq_true, if_false]
      refine ia_t (x := a) rfl ?_
      refine isi_t ((hx a (by simp)).1.ty) (by simp) fun t2 e2 => ?_
      rcases ty_str e2 with ⟨e3, s, rfl⟩ | ⟨e3, ns⟩
      · rw [e3]
        simp only [truE, Bool.not_true, Bool.false_eq_true, if_false]
        rw [lSeq, lIfS]
        simp only [lSet, lRet, lRetN, lDrop, lOp, lVar, lC, lB, lT, lAnd, lOr, lNot, lIf, lAndV, lOrV, lNotV, lNil, lCons, lTup, lLst, lCB, lBM, lSl, lPart, lNext, lIt, lRng1, lRng2, lAsg, lPar, lSetI, lSetA, lAugS, lLc, lZip, lNeg, lCall, lChain, List.getElem?_cons_zero, List.getElem?_cons_succ, List.set_cons_zero, List.set_cons_succ, wipeE, intP, intE]
        refine ia_t (x := .str s) rfl (eq_s ?_)
        have eD : deedB (.tup [.str s, b]) = if s = sPut then textB b && notMt b else decide (s = sKeep ∨ s = sDrop) && isBt b 1 1000000000 := rfl
        by_cases hp : s = sPut
        · rw [if_pos hp] at eD
          rw [decide_eq_true (show s = [112, 117, 116] from hp)]
          simp only [Bool.false_xor, if_true]
          refine ia_t (x := b) rfl ?_
          refine ⟨b, rfl, (hx b (by simp)).1, (hx b (by simp)).2, fun h1 k1 => ?_⟩
          cases et : textB b with
          | false =>
            simp only [truE, Bool.false_eq_true, if_false]
            rw [eD, et, Bool.false_and] at q
            exact q _ k1
          | true =>
            simp only [truE, if_true]
            obtain ⟨ns, rfl⟩ := textB_ints et
            refine ia_t (x := tx ns) rfl ⟨by simp [sizeL], eq_tx0 ?_⟩
            have : deedB (.tup [.str s, tx ns]) = (true ^^ decide (ns = [])) := by
              rw [eD, et]
              cases ns <;> rfl
            rw [this] at q
            exact q _ k1
        · rw [if_neg hp] at eD
          rw [decide_eq_false (show ¬ s = [112, 117, 116] from hp)]
          simp only [Bool.false_xor, Bool.false_eq_true, if_false]
          refine ia_t (x := .str s) rfl ⟨by simp [sizeL], ?_⟩
          simp only [inA]
          refine ⟨rfl, rfl, ?_⟩
          have e4 : inF (.str s) [.str [107, 101, 101, 112], .str [100, 114, 111, 112]] = decide (s = sKeep ∨ s = sDrop) := by
            simp only [inF, List.any_cons, List.any_nil, eqF, Bool.or_false]
            rw [Bool.eq_iff_iff]
            simp only [Bool.or_eq_true, decide_eq_true_eq]
            exact ⟨fun z => z.elim (fun z => .inl z.symm) fun z => .inr z.symm, fun z => z.elim (fun z => .inl z.symm) fun z => .inr z.symm⟩
          rw [e4]
          cases hk : decide (s = sKeep ∨ s = sDrop) with
          | false =>
            simp only [Bool.false_xor, truE, Bool.false_eq_true, if_false]
            rw [hk, Bool.false_and] at eD
            rw [eD] at q
            exact q _ .refl
          | true =>
            simp only [Bool.false_xor, truE, if_true]
            rw [hk, Bool.true_and] at eD
            refine ia_t (x := b) rfl ?_
            obtain ⟨t3, e5⟩ := (hx b (by simp)).1.ty
            refine ⟨b, t3, 1, 1000000000, rfl, e5, ?_⟩
            rw [eD] at q
            exact q _ .refl
      · rw [e3]
        simp only [truE, Bool.not_false, if_true, lRet, lC]
        rw [deedB_ns ns] at q
        exact q _ .refl
    · have : (true ^^ decide ((xs.length : Int) = 2)) = true := by
        rw [decide_eq_false (by omega)]; rfl
      rw [this]
      simp only [if_true, lRet, lC]
      rw [deedB_len l2] at q
      exact q _ .refl
  · rw [e1]
    simp only [truE, Bool.not_false, if_true, lRet, lC]
    have : deedB v = false := by
      cases v <;> first | rfl | exact absurd rfl (nt _)
    rw [this] at q
    exact q _ .refl
theorem po9 {h : EH} {P : EK} (hP : P (.int 1000000000) h) : powE (.int 10) (.int 9) h P := pow_i (by unfold CPow; decide) (by simpa using hP)
end Y

namespace Y
open PySem PySem.Spec PyProof.Rows L2

def lackS (n : Nat) : List Nat → Nat → Nat → Option Nat
  | [], i, a => if a < n then some i else none
  | c :: s, i, a => if c ≠ 100 ∧ n ≤ a then some i else lackS n s (i + 1) (if c ≠ 100 then a + 1 else a)
def unS : List Nat → List Int → List Un
  | [], _ => []
  | c :: s, r => if c = 100 then .d :: unS s r else if c = 112 then .p (r.headD 0) :: unS s r.tail else .k :: unS s r.tail
abbrev wNaS : List Nat := [78, 111, 116, 65, 83, 99, 114, 105, 112, 116]
abbrev wDlt : List Nat := [100, 101, 108, 116, 97]
structure OfS (s : List Nat) (R : List Int) : Prop where
  st : StepC s
  sl : s.length ≤ 900
  rl : R.length ≤ 900
theorem fmc {α β : Type} {f g : α → Option β} : ∀ {l : List α}, (∀ x ∈ l, f x = g x) → l.filterMap f = l.filterMap g
  | [], _ => rfl
  | x :: l, h => by rw [List.filterMap_cons, List.filterMap_cons, h x (by simp), fmc fun y hy => h y (by simp [hy])]
end Y

namespace Y
open PySem PySem.Spec PyProof.Rows L2

theorem kn_tup {h : EH} (xs : List EV) : Kn h (.tup xs) := ⟨⟨"tuple", fun _ _ => rfl⟩, fun ys e => by cases e⟩
theorem kn_int {h : EH} (i : Int) : Kn h (.int i) := ⟨⟨"int", fun _ _ => rfl⟩, fun ys e => by cases e⟩
theorem kn_str {h : EH} (s : List Nat) : Kn h (.str s) := ⟨⟨"str", fun _ _ => rfl⟩, fun ys e => by cases e⟩
theorem kd_deed {h : EH} {d : Dd} (hl : d.units.length ≤ 1000) : Kd h d.e := by
  have two : ∀ (w : List Nat) (v : EV), Kn h v → (∀ ys, v = .tup ys → ys.length ≤ 1000 ∧ ∀ y ∈ ys, Kn h y) → Kd h (.tup [.str w, v]) := fun w v kv hv => ⟨kn_tup _, fun xs e => by
    cases e
    refine ⟨by simp, fun x hx => ?_⟩
    simp only [List.mem_cons, List.not_mem_nil, or_false] at hx
    rcases hx with rfl | rfl
    · exact ⟨kn_str _, fun ys e => by cases e⟩
    · exact ⟨kv, hv⟩⟩
  cases d with
  | keep n => exact two _ _ (kn_int _) fun ys e => by cases e
  | drop n => exact two _ _ (kn_int _) fun ys e => by cases e
  | put xs =>
    refine two _ _ (kn_tup _) fun ys e => ?_
    cases e
    refine ⟨by simpa [Dd.units] using hl, fun y hy => ?_⟩
    obtain ⟨z, _, rfl⟩ := List.mem_map.mp hy
    exact kn_int z
def duD (s : List Nat) (R : List Int) : PyData := match lackS R.length s 0 0 with
  | none => .tuple [.str (S wDlt), .list (pds ((packed (unS s R)).map Dd.e))]
  | some k => .tuple [.str (S wNaS), .int k]
inductive DuV (s : List Nat) (R : List Int) (b0 : Nat) (h : EH) : EV → Prop
  | d {r : Nat} : lackS R.length s 0 0 = none → b0 ≤ r → DlAt h r (packed (unS s R)) → DuV s R b0 h (.tup [.str wDlt, .ref r])
  | n {k : Nat} : lackS R.length s 0 0 = some k → DuV s R b0 h (.tup [.str wNaS, .int k])
theorem DuV.keep {s : List Nat} {R : List Int} {b0 : Nat} {h h' : EH} {v : EV} (z : DuV s R b0 h v) (k : Keep no1 h h') : DuV s R b0 h' v := by
  cases z with
  | d e l a => exact .d e l (a.keep k)
  | n e => exact .n e
theorem lackS_lt : ∀ {n : Nat} {s : List Nat} {i a k : Nat}, lackS n s i a = some k → k ≤ i + s.length
  | n, [], i, a, k, h => by
    rw [lackS] at h
    split at h
    · cases h; simp
    · cases h
  | n, c :: s, i, a, k, h => by
    rw [lackS] at h
    rw [List.length_cons]
    split at h
    · cases h; omega
    · have := lackS_lt h; omega
theorem DuV.ds {s : List Nat} {R : List Int} {b0 : Nat} {h : EH} {v : EV} (z : DuV s R b0 h v) (sl : s.length ≤ 900) : DS h 10 1040000 v (duD s R) := by
  unfold duD
  cases z with
  | d e l a =>
    rw [e]
    exact DS.more (DS.tup (DSs.cons (DS.str (k := 10) (by decide) (by decide)) (DSs.cons (a.ds (n := 6)) (DSs.nil (k := 0))))) (by omega)
  | @n k e =>
    rw [e]
    have := lackS_lt e
    exact DS.more (DS.tup (DSs.cons (DS.str (k := 10) (by decide) (by decide)) (DSs.cons (DS.int (i := (k : Nat)) (k := 41) (by omega) (Nat.le_refl _)) (DSs.nil (k := 0))))) (by omega)
end Y

namespace Y
open PySem PySem.Spec PyProof.Rows L2

def digC (c : Nat) : Bool := decide (48 ≤ c) && decide (c ≤ 57)
def numI (w : List Nat) : Option Nat := if w = [] ∨ 10 < w.length ∨ w.all digC = false then none else if 1 < w.length ∧ w.headD 0 = 48 then none else some (NumText.digitsVal w)
theorem digC_mem (c : Nat) : decide (c ∈ [48, 49, 50, 51, 52, 53, 54, 55, 56, 57]) = digC c := by
  unfold digC
  rw [← Bool.decide_and, decide_eq_decide]
  simp only [List.mem_cons, List.not_mem_nil, or_false]
  omega
theorem numL_all (n : Nat) : (TL.numL n).all digC = true := by
  rw [List.all_eq_true]
  intro c hc
  have := TL.numL_digits n c hc
  unfold digC
  rw [decide_eq_true this.1, decide_eq_true this.2]; rfl
theorem numL_hd : ∀ (n : Nat), 1 ≤ n → (TL.numL n).headD 0 ≠ 48 := by
  intro n
  induction n using Nat.strongRecOn with
  | _ n ih =>
    intro h1
    by_cases h : n < 10
    · rw [TL.numL_lt h]; simp; omega
    · rw [TL.numL_step (by omega)]
      have := ih (n / 10) (by omega) (by omega)
      have ne := TL.numL_ne (n / 10)
      cases e : TL.numL (n / 10) with
      | nil => exact absurd e ne
      | cons x r => rw [e] at this; exact this
theorem numI_numL {n : Nat} (h : n ≤ 1000000000) : numI (TL.numL n) = some n := by
  have hl : (TL.numL n).length ≤ 10 := TL.numL_len (by decide) (by omega)
  unfold numI
  rw [if_neg, if_neg, TL.numL_val]
  · rintro ⟨h1, h2⟩
    by_cases h0 : n = 0
    · subst h0
      rw [TL.numL_lt (by decide)] at h1
      simp at h1
    · exact numL_hd n (by omega) h2
  · rintro (e | e | e)
    · exact TL.numL_ne n e
    · omega
    · rw [numL_all] at e; cases e
theorem splC_free {c : Nat} : ∀ {a : List Nat}, c ∉ a → ∀ b, splC c (a ++ c :: b) = a :: splC c b
  | [], _, b => by rw [List.nil_append, splC, if_pos rfl]
  | x :: a, h, b => by
    have hx : x ≠ c := fun e => h (by simp [e])
    rw [List.cons_append, splC, if_neg hx, splC_free (fun m => h (by simp [m])) b]
theorem splC_end {c : Nat} : ∀ {a : List Nat}, c ∉ a → splC c a = [a]
  | [], _ => rfl
  | x :: a, h => by
    have hx : x ≠ c := fun e => h (by simp [e])
    rw [splC, if_neg hx, splC_end fun m => h (by simp [m])]
theorem splC_join {c : Nat} : ∀ {ws : List (List Nat)}, ws ≠ [] → (∀ w ∈ ws, c ∉ w) → splC c (TL.joinL [c] ws) = ws
  | [w], _, h => by rw [TL.joinL]; exact splC_end (h w (by simp))
  | w :: v :: ws, _, h => by
    rw [TL.joinL]
    show splC c (w ++ c :: TL.joinL [c] (v :: ws)) = _
    rw [splC_free (h w (by simp)), splC_join (ws := v :: ws) (by simp) fun u hu => h u (by simp [List.mem_cons.mp hu])]
def numsD : Dd → List Int
  | .keep n => [n]
  | .drop n => [n]
  | .put xs => xs
def wordsD (d : Dd) : List (List Nat) := d.word :: (numsD d).map fun x => TL.numL x.toNat
def lineB (d : Dd) : List Nat := TL.joinL [32] (wordsD d)
def lineS (d : Dd) : List Nat := lineB d ++ [10]
def linesS (D : Delta) : List Nat := (D.map lineS).flatten
def okN : Option Nat → Bool
  | some n => decide (n ≤ 1000000000)
  | none => false
def deedW (w : List Nat) (ns : List (Option Nat)) : Option Dd :=
  if w = sPut then (if ns ≠ [] ∧ ns.all okN = true then some (.put (ns.map fun o => ((o.getD 0 : Nat) : Int))) else none)
  else match ns with
    | [some n] => if 1 ≤ n ∧ n ≤ 1000000000 then (if w = sKeep then some (.keep n) else if w = sDrop then some (.drop n) else none) else none
    | _ => none
def deedT (l : List Nat) : Option Dd := deedW ((splC 32 l).headD []) ((splC 32 l).tail.map numI)
def optDd : Option Dd → EV
  | none => .non
  | some d => d.e
structure DdOk (d : Dd) : Prop where
  ok : d.ok
  rg : ∀ x ∈ numsD d, 0 ≤ x ∧ x ≤ 1000000000
theorem numsD_word {d : Dd} (z : DdOk d) : ∀ w ∈ wordsD d, 32 ∉ w ∧ 10 ∉ w := by
  intro w hw
  rcases List.mem_cons.mp hw with rfl | hw
  · cases d with
    | keep n => exact (by decide : 32 ∉ sKeep ∧ 10 ∉ sKeep)
    | drop n => exact (by decide : 32 ∉ sDrop ∧ 10 ∉ sDrop)
    | put xs => exact (by decide : 32 ∉ sPut ∧ 10 ∉ sPut)
  · obtain ⟨x, _, rfl⟩ := List.mem_map.mp hw
    exact ⟨TL.numL_free (by decide), TL.numL_free (by decide)⟩
theorem joinL_free {c s : Nat} (h : s ≠ c) : ∀ {ws : List (List Nat)}, (∀ w ∈ ws, s ∉ w) → s ∉ TL.joinL [c] ws
  | [], _ => by simp [TL.joinL]
  | [w], hw => by rw [TL.joinL]; exact hw w (by simp)
  | w :: v :: ws, hw => by
    rw [TL.joinL]
    intro m
    rcases List.mem_append.mp m with m | m
    · exact hw w (by simp) m
    · rcases List.mem_append.mp m with m | m
      · exact h (List.mem_singleton.mp m)
      · exact joinL_free h (ws := v :: ws) (fun u hu => hw u (by simp [List.mem_cons.mp hu])) m
theorem line_free {d : Dd} (z : DdOk d) : 10 ∉ lineB d := joinL_free (by decide) fun w hw => (numsD_word z w hw).2
theorem numsI {xs : List Int} (h : ∀ x ∈ xs, 0 ≤ x ∧ x ≤ 1000000000) : (xs.map fun x => TL.numL x.toNat).map numI = xs.map fun x => some x.toNat := by
  rw [List.map_map]
  refine List.map_congr_left fun x hx => ?_
  have := h x hx
  exact numI_numL (by omega)
theorem deedT_line {d : Dd} (z : DdOk d) : deedT (lineB d) = some d := by
  unfold deedT lineB
  rw [splC_join (by simp [wordsD]) fun w hw => (numsD_word z w hw).1]
  show deedW d.word (((numsD d).map fun x => TL.numL x.toNat).map numI) = some d
  rw [numsI z.rg]
  have ok := z.ok
  have rg := z.rg
  cases d with
  | keep n =>
    have := rg (n : Int) (by simp [numsD])
    show (if sKeep = sPut then _ else _) = _
    rw [if_neg (by decide)]
    show (if 1 ≤ n ∧ n ≤ 1000000000 then (if sKeep = sKeep then some (Dd.keep n) else _) else none) = _
    rw [if_pos ⟨ok, by omega⟩, if_pos rfl]
  | drop n =>
    have := rg (n : Int) (by simp [numsD])
    show (if sDrop = sPut then _ else _) = _
    rw [if_neg (by decide)]
    show (if 1 ≤ n ∧ n ≤ 1000000000 then (if sDrop = sKeep then some (Dd.keep n) else if sDrop = sDrop then some (Dd.drop n) else none) else none) = _
    rw [if_pos ⟨ok, by omega⟩, if_neg (by decide), if_pos rfl]
  | put xs =>
    show (if sPut = sPut then (if (xs.map fun x => some x.toNat) ≠ [] ∧ (xs.map fun x => some x.toNat).all okN = true then some (Dd.put ((xs.map fun x => some x.toNat).map fun o => ((o.getD 0 : Nat) : Int))) else none) else _) = _
    rw [if_pos rfl, if_pos]
    · rw [List.map_map]
      congr 2
      refine (List.map_congr_left (g := id) fun x hx => ?_).trans (List.map_id xs)
      have := rg x hx
      show ((x.toNat : Nat) : Int) = x
      omega
    · refine ⟨fun e => ok (List.map_eq_nil_iff.mp e), ?_⟩
      rw [List.all_eq_true]
      intro o ho
      obtain ⟨x, hx, rfl⟩ := List.mem_map.mp ho
      have := rg x hx
      exact decide_eq_true (by omega)
def readL : List (List Nat) → Nat → Delta → Nat ⊕ Delta
  | [], _, D => .inr D
  | l :: ls, i, D => match deedT l with
    | none => .inl i
    | some d => if D ≠ [] ∧ (D.map Dd.kind).getLastD 9 = d.kind then .inl i else readL ls (i + 1) (D ++ [d])
def readT (t : List Nat) : Nat ⊕ Delta := match readL (splC 10 t).dropLast 0 [] with
  | .inl i => .inl i
  | .inr D => if (splC 10 t).getLastD [] = [] then .inr D else .inl ((splC 10 t).length - 1)
theorem splC_lines : ∀ {D : Delta}, (∀ d ∈ D, DdOk d) → splC 10 (linesS D) = D.map lineB ++ [[]]
  | [], _ => rfl
  | d :: D, h => by
    have : linesS (d :: D) = lineB d ++ 10 :: linesS D := by
      unfold linesS lineS
      simp
    rw [this, splC_free (line_free (h d (by simp))), splC_lines fun x hx => h x (by simp [hx])]
    rfl
theorem readL_lines : ∀ {E D : Delta} {i : Nat}, (∀ d ∈ E, DdOk d) → Proper (D ++ E) → readL (E.map lineB) i D = .inr (D ++ E)
  | [], D, i, _, _ => by rw [List.map_nil, readL, List.append_nil]
  | d :: E, D, i, h, p => by
    rw [List.map_cons, readL, deedT_line (h d (by simp))]
    have nk : ¬ (D ≠ [] ∧ (D.map Dd.kind).getLastD 9 = d.kind) := by
      rintro ⟨h1, h2⟩
      rcases List.eq_nil_or_concat D with e | ⟨D', e, he⟩
      · exact h1 e
      · rw [he] at p h2
        simp only [List.concat_eq_append, List.map_append, List.map_cons, List.map_nil, List.getLastD_concat] at h2
        have : ∀ (A : Delta), Proper (A ++ [e] ++ d :: E) → e.kind ≠ d.kind := by
          intro A
          induction A with
          | nil => intro q; exact q.2.1
          | cons a A ih => intro q; exact ih (Proper.tail q)
        exact this D' (by simpa [List.concat_eq_append] using p) h2
    dsimp only
    rw [if_neg nk, readL_lines (fun x hx => h x (by simp [hx])) (by simpa using p)]
    simp
theorem readT_lines {D : Delta} (h : ∀ d ∈ D, DdOk d) (p : Proper D) : readT (linesS D) = .inr D := by
  unfold readT
  rw [splC_lines h, List.dropLast_concat, readL_lines h (by simpa using p)]
  simp
end Y

namespace Y
open PySem PySem.Spec PyProof.Rows L2

structure LnD (d : Dd) : Prop where
  z : DdOk d
  l : (numsD d).length ≤ 100
def sp_number_in (ad : Ad) : LSp := fun evs h Q => ∃ w : List Nat, evs = [.str w] ∧ w.length ≤ 100000 ∧ ∀ h', Keep no1 h h' → Q (optN (numI w)) h'
def lawN : Option Nat → Int
  | none => -1
  | some n => n
def sp__law_number (ad : Ad) : LSp := fun evs h Q => ∃ w : List Nat, evs = [.str w] ∧ w.length ≤ 100000 ∧ ∀ h', Keep no1 h h' → Q (.int (lawN (numI w))) h'
def sp_line_of (ad : Ad) : LSp := fun evs h Q => ∃ d : Dd, evs = [d.e] ∧ LnD d ∧ ∀ h', Keep no1 h h' → Q (.str (lineS d)) h'
def sp__law_line (ad : Ad) : LSp := fun evs h Q => ∃ d : Dd, evs = [d.e] ∧ LnD d ∧ ∀ h', Keep no1 h h' → Q (.str (lineS d)) h'
def sp_written (ad : Ad) : LSp := fun evs h Q => ∃ (r : Nat) (D : Delta), evs = [.ref r] ∧ h[r]? = some (.lst (D.map Dd.e)) ∧ (∀ d ∈ D, LnD d) ∧ D.length ≤ 1000 ∧ ∀ h', Keep no1 h h' → Q (.str (linesS D)) h'
def sp__law_lines (ad : Ad) : LSp := fun evs h Q => ∃ (r : Nat) (D : Delta), evs = [.ref r] ∧ h[r]? = some (.lst (D.map Dd.e)) ∧ (∀ d ∈ D, LnD d) ∧ D.length ≤ 1000 ∧ ∀ h', Keep no1 h h' → Q (.str (linesS D)) h'
abbrev N_number_in : List Str := ["word", "sign"]
def t_number_in (ad : Ad) : LS :=
    lSeq (lIfS (lOr (lNot (lB (lChain leE leE (lC (.int 1)) (lCB lenE (lCons (lVar 0) (lNil))) (lC (.int 10))))) (lNot (lT (lCB allE (lCons (lLc (lIt (lVar 0)) (.nm 1) (lYes) (lOp (inA false) (lVar 1) (lC (.str [48, 49, 50, 51, 52, 53, 54, 55, 56, 57]))) [1]) (lNil))))))
      (lRet (lC .non))
      (lNext)) <|
    lRet (lIf (lAnd (lB (lOp gtE (lCB lenE (lCons (lVar 0) (lNil))) (lC (.int 1)))) (lB (lOp (eqE false) (lOp ixA (lVar 0) (lC (.int 0))) (lC (.str [48]))))) (lC .non) (lCB intOfS (lCons (lVar 0) (lNil))))
abbrev N_line_of : List Str := ["deed", "numbers", "number"]
def t_line_of (ad : Ad) : LS :=
    lSeq (lSet (lIf (lB (lOp (eqE false) (lOp ixA (lVar 0) (lC (.int 0))) (lC (.str [112, 117, 116])))) (lOp ixA (lVar 0) (lC (.int 1))) (lTup (lCons (lOp ixA (lVar 0) (lC (.int 1))) (lNil)))) 1) <|
    lRet (lOp addE (lBM "str" joinE (lC (.str [32])) (lCons (lLst (lCons (lOp ixA (lVar 0) (lC (.int 0))) (lStar (lLc (lIt (lVar 1)) (.nm 2) (lYes) (lCB strI (lCons (lVar 2) (lNil))) [2]) (lNil)))) (lNil))) (lC (.str [10])))
abbrev N_written : List Str := ["delta", "deed"]
def t_written (ad : Ad) : LS :=
    lRet (lBM "str" joinE (lC (.str [])) (lCons (lLc (lIt (lVar 0)) (.nm 1) (lYes) (lCall (sp_line_of ad) (lCons (lVar 1) (lNil))) [1]) (lNil)))
abbrev N__law_line : List Str := ["_law_deed_here", "_law_letter"]
def t__law_line (ad : Ad) : LS :=
    lSeq (lIfS (lB (lOp (eqE false) (lOp ixA (lVar 0) (lC (.int 0))) (lC (.str [112, 117, 116]))))
      (lRet (lOp addE (lOp addE (lC (.str [112, 117, 116, 32])) (lBM "str" joinE (lC (.str [32])) (lCons (lLc (lIt (lOp ixA (lVar 0) (lC (.int 1)))) (.nm 1) (lYes) (lCB strI (lCons (lVar 1) (lNil))) [1]) (lNil)))) (lC (.str [10]))))
      (lNext)) <|
    lRet (lOp addE (lOp addE (lOp addE (lOp ixA (lVar 0) (lC (.int 0))) (lC (.str [32]))) (lCB strI (lCons (lOp ixA (lVar 0) (lC (.int 1))) (lNil)))) (lC (.str [10])))
abbrev N__law_lines : List Str := ["_law_delta", "_law_deed_here"]
def t__law_lines (ad : Ad) : LS :=
    lRet (lBM "str" joinE (lC (.str [])) (lCons (lLc (lIt (lVar 0)) (.nm 1) (lYes) (lCall (sp__law_line ad) (lCons (lVar 1) (lNil))) [1]) (lNil)))
abbrev N__law_number : List Str := ["_law_word", "_law_sign"]
def t__law_number (ad : Ad) : LS :=
    lSeq (lIfS (lOr (lB (lOp (eqE false) (lVar 0) (lC (.str [])))) (lOr (lB (lOp gtE (lCB lenE (lCons (lVar 0) (lNil))) (lC (.int 10)))) (lB (lOp (eqE true) (lLc (lIt (lVar 0)) (.nm 1) (lB (lOp (inA true) (lVar 1) (lC (.str [48, 49, 50, 51, 52, 53, 54, 55, 56, 57])))) (lVar 1) [1]) (lLst (lNil))))))
      (lRet (lNeg (lC (.int 1))))
      (lNext)) <|
    lRet (lIf (lAnd (lB (lOp gtE (lCB lenE (lCons (lVar 0) (lNil))) (lC (.int 1)))) (lB (lOp (eqE false) (lOp ixA (lVar 0) (lC (.int 0))) (lC (.str [48]))))) (lNeg (lC (.int 1))) (lCB intOfS (lCons (lVar 0) (lNil))))
theorem len_number_in (ad : Ad) (evs : List EV) (h : EH) (Q : EK) (q : sp_number_in ad evs h Q) : evs.length = ["word"].length := by
  obtain ⟨_, rfl, _⟩ := q; rfl
theorem len__law_number (ad : Ad) (evs : List EV) (h : EH) (Q : EK) (q : sp__law_number ad evs h Q) : evs.length = ["_law_word"].length := by
  obtain ⟨_, rfl, _⟩ := q; rfl
theorem len_line_of (ad : Ad) (evs : List EV) (h : EH) (Q : EK) (q : sp_line_of ad evs h Q) : evs.length = ["deed"].length := by
  obtain ⟨_, rfl, _⟩ := q; rfl
theorem len__law_line (ad : Ad) (evs : List EV) (h : EH) (Q : EK) (q : sp__law_line ad evs h Q) : evs.length = ["_law_deed_here"].length := by
  obtain ⟨_, rfl, _⟩ := q; rfl
theorem len_written (ad : Ad) (evs : List EV) (h : EH) (Q : EK) (q : sp_written ad evs h Q) : evs.length = ["delta"].length := by
  obtain ⟨_, _, rfl, _⟩ := q; rfl
theorem len__law_lines (ad : Ad) (evs : List EV) (h : EH) (Q : EK) (q : sp__law_lines ad evs h Q) : evs.length = ["_law_delta"].length := by
  obtain ⟨_, _, rfl, _⟩ := q; rfl
theorem int_w {w : List Nat} (h1 : w ≠ []) (h2 : w.length ≤ 10) (h3 : w.all digC = true) {h : EH} {P : EK} (p : P (.int (NumText.digitsVal w : Nat)) h) : intOfS [.str w] h P := .inl ⟨w, rfl, h3, h1, by omega, p⟩
theorem num_tail {w : List Nat} (h1 : w ≠ []) (h2 : w.length ≤ 10) (h3 : w.all digC = true) : numI w = if 1 < w.length ∧ w.headD 0 = 48 then none else some (NumText.digitsVal w) := by
  unfold numI
  rw [if_neg]
  rintro (e | e | e)
  · exact h1 e
  · omega
  · rw [h3] at e; cases e
theorem fm_dig (w : List Nat) : (w.filterMap fun c => some (EV.bl (digC c))) = (w.map digC).map EV.bl := by
  induction w with
  | nil => rfl
  | cons c w ih => rw [List.filterMap_cons]; exact congrArg (List.cons _) ih
theorem hd_at {w : List Nat} (h : w ≠ []) : atI w 0 = some (w.headD 0) := by
  cases w with
  | nil => exact absurd rfl h
  | cons x r => exact (atI_n _ 0).trans rfl
theorem pure_number_in (ad : Ad) (evs : List EV) (h : EH) (Q : EK) (q : sp_number_in ad evs h Q) : t_number_in ad (endsOf Q) (startE N_number_in evs) h := by
  obtain ⟨w, rfl, hl, q⟩ := q
  show t_number_in ad (endsOf Q) [some (.str w), none] h
  unfold t_number_in
  rw [lSeq, lIfS]
  simp only [lSet, lRet, lRetN, lDrop, lOp, lVar, lC, lB, lT, lAnd, lOr, lNot, lIf, lAndV, lOrV, lNotV, lNil, lCons, lTup, lLst, lCB, lBM, lSl, lPart, lNext, lIt, lRng1, lRng2, lAsg, lPar, lSetI, lSetA, lAugS, lLc, lZip, lNeg, lCall, lChain, List.getElem?_cons_zero, List.getElem?_cons_succ, List.set_cons_zero, List.set_cons_succ, wipeE, intP, intE, lOr, lNot, lT, leE, lenE, intE, intP]
  have sz : sizeLine = 16777216 := sizeL
  refine ⟨by omega, ?_⟩
  by_cases c1 : (1 : Int) ≤ (w.length : Nat)
  · simp only [c1, decide_true, if_true]
    by_cases c2 : ((w.length : Nat) : Int) ≤ 10
    · simp only [c2, decide_true, Bool.not_true, Bool.false_eq_true, if_false]
      have h1 : w ≠ [] := by intro e; rw [e] at c1; exact absurd c1 (by decide)
      refine lc_keep (α := Nat) (fun c => EV.str [c]) (fun c => some (.bl (digC c))) w (by omega) (fun _ _ => trivial) (fun c hc h' ky kn k hy hn => ?_) fun h2 k2 e2 => ?_
      · refine bind_nm ?_
        simp only [List.set_cons_zero, List.set_cons_succ, lSet, lRet, lRetN, lDrop, lOp, lVar, lC, lB, lT, lAnd, lOr, lNot, lIf, lAndV, lOrV, lNotV, lNil, lCons, lTup, lLst, lCB, lBM, lSl, lPart, lNext, lIt, lRng1, lRng2, lAsg, lPar, lSetI, lSetA, lAugS, lLc, lZip, lNeg, lCall, lChain, List.getElem?_cons_zero, List.getElem?_cons_succ, List.set_cons_zero, List.set_cons_succ, wipeE, intP, intE, wipeE, lYes, if_true, inA]
        rw [digC_mem, Bool.false_xor]
        exact hy _ rfl _ .refl
      · rw [fm_dig] at e2
        refine all_b e2 ?_
        have ea : (w.map digC).all id = w.all digC := by simp [List.all_map, Function.comp_def]
        rw [ea]
        cases e3 : w.all digC with
        | false =>
          simp only [truE, Bool.not_false, if_true, lRet, lC]
          have := q h2 k2
          unfold numI at this
          rw [if_pos (.inr (.inr e3))] at this
          exact this
        | true =>
          simp only [truE, Bool.not_true, Bool.false_eq_true, if_false]
          try refine next_go ?_
          have qq := q h2 k2
          rw [num_tail h1 (by omega) e3] at qq
          try simp only [lRet, lIf, lSet, lRet, lRetN, lDrop, lOp, lVar, lC, lB, lT, lAnd, lOr, lNot, lIf, lAndV, lOrV, lNotV, lNil, lCons, lTup, lLst, lCB, lBM, lSl, lPart, lNext, lIt, lRng1, lRng2, lAsg, lPar, lSetI, lSetA, lAugS, lLc, lZip, lNeg, lCall, lChain, List.getElem?_cons_zero, List.getElem?_cons_succ, List.set_cons_zero, List.set_cons_succ, wipeE, intP, intE, lAnd, gtE, lenE, intE, intP]
          refine ⟨by omega, ?_⟩
          by_cases c3 : (1 : Int) < (w.length : Nat)
          · simp only [c3, decide_true, if_true]
            refine ia_s (by omega) (hd_at h1) (eq_s ?_)
            by_cases c4 : w.headD 0 = 48
            · rw [decide_eq_true (by rw [c4])]
              rw [if_pos ⟨by omega, c4⟩] at qq
              simp only [Bool.false_xor, truE, if_true]
              exact qq
            · rw [decide_eq_false (by simpa using c4)]
              rw [if_neg (fun z => c4 z.2)] at qq
              simp only [Bool.false_xor, truE, Bool.false_eq_true, if_false]
              exact int_w h1 (by omega) e3 qq
          · simp only [c3, decide_false, truE, Bool.false_eq_true, if_false]
            rw [if_neg (fun z => c3 (by omega))] at qq
            exact int_w h1 (by omega) e3 qq
    · simp only [c2, decide_false, Bool.not_false, if_true, lRet, lC]
      have := q h .refl
      unfold numI at this
      rw [if_pos (.inr (.inl (by omega)))] at this
      exact this
  · simp only [c1, decide_false, Bool.false_eq_true, if_false, Bool.not_false, if_true, lRet, lC]
    have := q h .refl
    unfold numI at this
    rw [if_pos (.inl (by
      cases w with
      | nil => rfl
      | cons x r => simp at c1; omega))] at this
    exact this
theorem fm_nd (w : List Nat) : (w.filterMap fun c => if digC c = true then none else some (EV.str [c])) = (w.filter fun c => !digC c).map stE := by
  induction w with
  | nil => rfl
  | cons c w ih =>
    rw [List.filterMap_cons, List.filter_cons]
    cases digC c with
    | true => simpa using ih
    | false => simp only [Bool.false_eq_true, if_false, Bool.not_false, if_true, List.map_cons]; rw [ih]; rfl
theorem nd_nil (w : List Nat) : decide ((w.filter fun c => !digC c) = []) = w.all digC := by
  rw [Bool.eq_iff_iff, decide_eq_true_eq, List.filter_eq_nil_iff, List.all_eq_true]
  constructor
  · intro h c hc; have := h c hc; simpa using this
  · intro h c hc; simp [h c hc]
theorem pure__law_number (ad : Ad) (evs : List EV) (h : EH) (Q : EK) (q : sp__law_number ad evs h Q) : t__law_number ad (endsOf Q) (startE N__law_number evs) h := by
  obtain ⟨w, rfl, hl, q⟩ := q
  show t__law_number ad (endsOf Q) [some (.str w), none] h
  have sz : sizeLine = 16777216 := sizeL
  unfold t__law_number
  rw [lSeq, lIfS]
  simp only [lSet, lRet, lRetN, lDrop, lOp, lVar, lC, lB, lT, lAnd, lOr, lNot, lIf, lAndV, lOrV, lNotV, lNil, lCons, lTup, lLst, lCB, lBM, lSl, lPart, lNext, lIt, lRng1, lRng2, lAsg, lPar, lSetI, lSetA, lAugS, lLc, lZip, lNeg, lCall, lChain, List.getElem?_cons_zero, List.getElem?_cons_succ, List.set_cons_zero, List.set_cons_succ, wipeE, intP, intE, lOr]
  refine eq_s ?_
  by_cases c1 : w = []
  · subst c1
    simp only [decide_true, Bool.false_xor, if_true, lRet, lNeg, lC]
    exact q h .refl
  · rw [decide_eq_false c1]
    simp only [Bool.false_xor, Bool.false_eq_true, if_false, lenE, gtE, intE, intP]
    refine ⟨by omega, ?_⟩
    by_cases c2 : (10 : Int) < (w.length : Nat)
    · simp only [c2, decide_true, if_true, lRet, lNeg, lC]
      have := q h .refl
      unfold numI at this
      rw [if_pos (.inr (.inl (by omega)))] at this
      exact this
    · simp only [c2, decide_false, Bool.false_eq_true, if_false]
      refine lc_keep (α := Nat) (fun c => EV.str [c]) (fun c => if digC c = true then none else some (EV.str [c])) w (by omega) (fun _ _ => trivial) (fun c hc h' ky kn k hy hn => ?_) fun h2 k2 e2 => ?_
      · refine bind_nm ?_
        simp only [List.set_cons_zero, List.set_cons_succ, lSet, lRet, lRetN, lDrop, lOp, lVar, lC, lB, lT, lAnd, lOr, lNot, lIf, lAndV, lOrV, lNotV, lNil, lCons, lTup, lLst, lCB, lBM, lSl, lPart, lNext, lIt, lRng1, lRng2, lAsg, lPar, lSetI, lSetA, lAugS, lLc, lZip, lNeg, lCall, lChain, List.getElem?_cons_zero, List.getElem?_cons_succ, List.set_cons_zero, List.set_cons_succ, wipeE, intP, intE, wipeE, inA]
        rw [digC_mem]
        cases ed : digC c with
        | true =>
          simp only [Bool.true_xor, Bool.not_true, truE, Bool.false_eq_true, if_false]
          exact hn (by rw [ed]; rfl) _ .refl
        | false =>
          simp only [Bool.true_xor, Bool.not_false, truE, if_true]
          exact hy _ (by rw [ed]; rfl) _ .refl
      · rw [fm_nd] at e2
        refine ⟨by simp [sizeL], eqE_nilS (app_at e2 _) new_at ?_⟩
        rw [nd_nil]
        have k3 : Keep no1 h (h2 ++ [EO.lst []]) := k2.trans (Keep.app _)
        cases e3 : w.all digC with
        | false =>
          simp only [Bool.true_xor, Bool.not_false, if_true, lRet, lNeg, lC]
          have := q _ k3
          unfold numI at this
          rw [if_pos (.inr (.inr e3))] at this
          exact this
        | true =>
          simp only [Bool.true_xor, Bool.not_true, Bool.false_eq_true, if_false]
          try refine next_go ?_
          have qq := q _ k3
          rw [num_tail c1 (by omega) e3] at qq
          try simp only [lRet, lIf, lSet, lRet, lRetN, lDrop, lOp, lVar, lC, lB, lT, lAnd, lOr, lNot, lIf, lAndV, lOrV, lNotV, lNil, lCons, lTup, lLst, lCB, lBM, lSl, lPart, lNext, lIt, lRng1, lRng2, lAsg, lPar, lSetI, lSetA, lAugS, lLc, lZip, lNeg, lCall, lChain, List.getElem?_cons_zero, List.getElem?_cons_succ, List.set_cons_zero, List.set_cons_succ, wipeE, intP, intE, lAnd, gtE, lenE, intE, intP]
          refine ⟨by omega, ?_⟩
          by_cases c3 : (1 : Int) < (w.length : Nat)
          · simp only [c3, decide_true, if_true]
            refine ia_s (by omega) (hd_at c1) (eq_s ?_)
            by_cases c4 : w.headD 0 = 48
            · rw [decide_eq_true (by rw [c4])]
              rw [if_pos ⟨by omega, c4⟩] at qq
              simp only [Bool.false_xor, truE, if_true, lNeg, lC]
              exact qq
            · rw [decide_eq_false (by simpa using c4)]
              rw [if_neg (fun z => c4 z.2)] at qq
              simp only [Bool.false_xor, truE, Bool.false_eq_true, if_false]
              exact int_w c1 (by omega) e3 qq
          · simp only [c3, decide_false, truE, Bool.false_eq_true, if_false]
            rw [if_neg (fun z => c3 (by omega))] at qq
            exact int_w c1 (by omega) e3 qq
theorem str_num {x : Int} (h : 0 ≤ x ∧ x ≤ 1000000000) {g : EH} {P : EK} (p : P (.str (TL.numL x.toNat)) g) : strI [.int x] g P := by
  obtain ⟨n, rfl⟩ := Int.eq_ofNat_of_zero_le h.1
  refine ⟨?_, ?_⟩
  · have : ((n : Nat) : Int).natAbs.log2 < 40 := log_le (by omega) (by decide)
    omega
  · have e : (Str.ofString (toString ((n : Nat) : Int))).cps.toList = TL.numL n := TL.tl_num n
    rw [e]
    exact p
theorem fm_num (xs : List Int) : (xs.filterMap fun x => some (EV.str (TL.numL x.toNat))) = (xs.map fun x => TL.numL x.toNat).map EV.str := by
  induction xs with
  | nil => rfl
  | cons c w ih => rw [List.filterMap_cons]; exact congrArg (List.cons _) ih
theorem num_len {x : Int} (h : 0 ≤ x ∧ x ≤ 1000000000) : (TL.numL x.toNat).length ≤ 10 := TL.numL_len (by decide) (by omega)
theorem sum_le {ws : List (List Nat)} {k : Nat} (h : ∀ w ∈ ws, w.length ≤ k) : (ws.map (·.length)).sum ≤ ws.length * k := by
  induction ws with
  | nil => simp
  | cons w ws ih =>
    have := ih fun x hx => h x (by simp [hx])
    have := h w (by simp)
    simp only [List.map_cons, List.sum_cons, List.length_cons]
    rw [Nat.succ_mul]; omega
theorem word_ok97 (d : Dd) : d.word.length ≤ 10 := by
  cases d with
  | keep n => exact (by decide : sKeep.length ≤ 10)
  | drop n => exact (by decide : sDrop.length ≤ 10)
  | put xs => exact (by decide : sPut.length ≤ 10)
theorem wordsD_len {d : Dd} (z : LnD d) : (∀ w ∈ wordsD d, w.length ≤ 10) ∧ (wordsD d).length ≤ 101 := by
  refine ⟨fun w hw => ?_, by have := z.l; simp [wordsD]; omega⟩
  rcases List.mem_cons.mp hw with rfl | hw
  · exact word_ok97 d
  · obtain ⟨x, hx, rfl⟩ := List.mem_map.mp hw
    exact num_len (z.z.rg x hx)
theorem joinL_le : ∀ (ws : List (List Nat)), (TL.joinL [32] ws).length ≤ (ws.map (·.length)).sum + ws.length
  | [] => by simp [TL.joinL]
  | [w] => by simp [TL.joinL]
  | w :: v :: ws => by
    have := joinL_le (v :: ws)
    rw [TL.joinL]
    simp only [List.length_append, List.length_singleton, List.map_cons, List.sum_cons, List.length_cons, List.length_nil] at this ⊢
    omega
theorem lineS_len {d : Dd} (z : LnD d) : (lineS d).length ≤ 1200 := by
  have w := wordsD_len z
  have s := sum_le w.1
  have j := joinL_le (wordsD d)
  unfold lineS lineB
  rw [List.length_append, List.length_singleton]
  omega
theorem linesS_len {D : Delta} (z : ∀ d ∈ D, LnD d) : (linesS D).length ≤ D.length * 1200 := by
  unfold linesS
  rw [List.length_flatten]
  have := sum_le (ws := D.map lineS) (k := 1200) fun w hw => by
    obtain ⟨d, hd, rfl⟩ := List.mem_map.mp hw
    exact lineS_len (z d hd)
  rwa [List.length_map] at this
theorem pure_line_of (ad : Ad) (evs : List EV) (h : EH) (Q : EK) (q : sp_line_of ad evs h Q) : t_line_of ad (endsOf Q) (startE N_line_of evs) h := by
  obtain ⟨d, rfl, z, q⟩ := q
  show t_line_of ad (endsOf Q) [some d.e, none, none] h
  have nl := z.l
  have fin : t_line_of ad (endsOf Q) [some d.e, none, none] h = t_line_of ad (endsOf Q) [some d.e, none, none] h := rfl
  unfold t_line_of
  rw [lSeq, lSet]
  have one : ∀ {P : EK}, P (tx (numsD d)) h → lIf (lB (lOp (eqE false) (lOp ixA (lVar 0) (lC (.int 0))) (lC (.str [112, 117, 116])))) (lOp ixA (lVar 0) (lC (.int 1))) (lTup (lCons (lOp ixA (lVar 0) (lC (.int 1))) (lNil))) [some d.e, none, none] h P := fun {P} p => by
    rw [Dd.e_eq]
    simp only [lIf, lSet, lRet, lRetN, lDrop, lOp, lVar, lC, lB, lT, lAnd, lOr, lNot, lIf, lAndV, lOrV, lNotV, lNil, lCons, lTup, lLst, lCB, lBM, lSl, lPart, lNext, lIt, lRng1, lRng2, lAsg, lPar, lSetI, lSetA, lAugS, lLc, lZip, lNeg, lCall, lChain, List.getElem?_cons_zero, List.getElem?_cons_succ, List.set_cons_zero, List.set_cons_succ, wipeE, intP, intE]
    refine ia_t (x := .str d.word) rfl (eq_s ?_)
    rw [word_put]
    cases d with
    | keep n =>
      rw [show (false ^^ decide ((Dd.keep n).kind = 2)) = false from rfl]
      simp only [Bool.false_eq_true, if_false]
      exact ia_t (x := .int n) rfl ⟨by simp [sizeL], p⟩
    | drop n =>
      rw [show (false ^^ decide ((Dd.drop n).kind = 2)) = false from rfl]
      simp only [Bool.false_eq_true, if_false]
      exact ia_t (x := .int n) rfl ⟨by simp [sizeL], p⟩
    | put xs =>
      simp only [Dd.kind, decide_true, Bool.false_xor, truE, if_true]
      exact ia_t (x := tx xs) rfl p
  refine one ?_
  clear one fin
  simp only [List.set_cons_zero, List.set_cons_succ, lRet]
  rw [Dd.e_eq]
  simp only [lSet, lRet, lRetN, lDrop, lOp, lVar, lC, lB, lT, lAnd, lOr, lNot, lIf, lAndV, lOrV, lNotV, lNil, lCons, lTup, lLst, lCB, lBM, lSl, lPart, lNext, lIt, lRng1, lRng2, lAsg, lPar, lSetI, lSetA, lAugS, lLc, lZip, lNeg, lCall, lChain, List.getElem?_cons_zero, List.getElem?_cons_succ, List.set_cons_zero, List.set_cons_succ, wipeE, intP, intE, lStar]
  try refine ⟨by simp [isTy], ?_⟩
  refine ia_t (x := .str d.word) rfl ?_
  simp only [tx, srcE, itemsE]
  refine lc_keep (α := Int) EV.int (fun x => some (EV.str (TL.numL x.toNat))) (numsD d) (by omega) (fun _ _ => trivial) (fun x hx h' ky kn k hy hn => ?_) fun h2 k2 e2 => ?_
  · refine bind_nm ?_
    simp only [List.set_cons_zero, List.set_cons_succ, lSet, lRet, lRetN, lDrop, lOp, lVar, lC, lB, lT, lAnd, lOr, lNot, lIf, lAndV, lOrV, lNotV, lNil, lCons, lTup, lLst, lCB, lBM, lSl, lPart, lNext, lIt, lRng1, lRng2, lAsg, lPar, lSetI, lSetA, lAugS, lLc, lZip, lNeg, lCall, lChain, List.getElem?_cons_zero, List.getElem?_cons_succ, List.set_cons_zero, List.set_cons_succ, wipeE, intP, intE, wipeE, lYes, if_true]
    exact str_num (z.z.rg x hx) (hy _ rfl _ .refl)
  · rw [fm_num] at e2
    simp only [e2]
    have hw := wordsD_len z
    have sm := sum_le hw.1
    have en : EV.str d.word :: ((numsD d).map fun x => TL.numL x.toNat).map EV.str = (wordsD d).map EV.str := rfl
    simp only [joinE]
    rw [List.append_nil, en]
    refine ⟨by rw [List.length_map, sizeL]; omega, ?_⟩
    simp only [new_at]
    have sz : sizeLine = 16777216 := sizeL
    have ll := lineS_len z
    refine ⟨wordsD d, rfl, by simp only [List.length_singleton]; omega, add_s ?_ ?_⟩
    · unfold lineS lineB at ll
      rw [List.length_append] at ll
      omega
    · exact q _ (k2.trans (Keep.app _))
theorem pure__law_line (ad : Ad) (evs : List EV) (h : EH) (Q : EK) (q : sp__law_line ad evs h Q) : t__law_line ad (endsOf Q) (startE N__law_line evs) h := by
  obtain ⟨d, rfl, z, q⟩ := q
  show t__law_line ad (endsOf Q) [some d.e, none] h
  have nl := z.l
  have sz : sizeLine = 16777216 := sizeL
  have ll := lineS_len z
  have rg := z.z.rg
  unfold t__law_line
  rw [lSeq, lIfS]
  rw [Dd.e_eq]
  simp only [lSet, lRet, lRetN, lDrop, lOp, lVar, lC, lB, lT, lAnd, lOr, lNot, lIf, lAndV, lOrV, lNotV, lNil, lCons, lTup, lLst, lCB, lBM, lSl, lPart, lNext, lIt, lRng1, lRng2, lAsg, lPar, lSetI, lSetA, lAugS, lLc, lZip, lNeg, lCall, lChain, List.getElem?_cons_zero, List.getElem?_cons_succ, List.set_cons_zero, List.set_cons_succ, wipeE, intP, intE]
  refine ia_t (x := .str d.word) rfl (eq_s ?_)
  rw [word_put]
  have num : ∀ (w : List Nat) (n : Nat), lineS d = w ++ [32] ++ TL.numL n ++ [10] → n ≤ 1000000000 → w.length ≤ 10 → lRet (lOp addE (lOp addE (lOp addE (lOp ixA (lVar 0) (lC (.int 0))) (lC (.str [32]))) (lCB strI (lCons (lOp ixA (lVar 0) (lC (.int 1))) (lNil)))) (lC (.str [10]))) (endsOf Q) [some (.tup [.str w, .int n]), none] h := by
    intro w n e hn hw
    simp only [lSet, lRet, lRetN, lDrop, lOp, lVar, lC, lB, lT, lAnd, lOr, lNot, lIf, lAndV, lOrV, lNotV, lNil, lCons, lTup, lLst, lCB, lBM, lSl, lPart, lNext, lIt, lRng1, lRng2, lAsg, lPar, lSetI, lSetA, lAugS, lLc, lZip, lNeg, lCall, lChain, List.getElem?_cons_zero, List.getElem?_cons_succ, List.set_cons_zero, List.set_cons_succ, wipeE, intP, intE]
    have nl : (TL.numL n).length ≤ 10 := TL.numL_len (by decide) (by omega)
    refine ia_t (x := .str w) rfl (add_s (by simp; omega) ?_)
    refine ia_t (x := .int n) rfl (str_num (by omega) ?_)
    rw [show ((n : Nat) : Int).toNat = n by omega]
    refine add_s (by simp; omega) (add_s (by simp; omega) ?_)
    rw [← e]
    exact q h .refl
  cases d with
  | keep n =>
    rw [show (false ^^ decide ((Dd.keep n).kind = 2)) = false from rfl]
    simp only [Bool.false_eq_true, if_false]
    try refine next_go ?_
    have := rg (n : Int) (by simp [numsD])
    refine num sKeep n ?_ (by omega) (by decide)
    show TL.joinL [32] [sKeep, TL.numL ((n : Int).toNat)] ++ [10] = _
    rw [show ((n : Nat) : Int).toNat = n by omega]
    simp [TL.joinL]
  | drop n =>
    rw [show (false ^^ decide ((Dd.drop n).kind = 2)) = false from rfl]
    simp only [Bool.false_eq_true, if_false]
    try refine next_go ?_
    have := rg (n : Int) (by simp [numsD])
    refine num sDrop n ?_ (by omega) (by decide)
    show TL.joinL [32] [sDrop, TL.numL ((n : Int).toNat)] ++ [10] = _
    rw [show ((n : Nat) : Int).toNat = n by omega]
    simp [TL.joinL]
  | put xs =>
    rw [show (false ^^ decide ((Dd.put xs).kind = 2)) = true from rfl]
    simp only [if_true]
    try simp only [lRet, lSet, lRet, lRetN, lDrop, lOp, lVar, lC, lB, lT, lAnd, lOr, lNot, lIf, lAndV, lOrV, lNotV, lNil, lCons, lTup, lLst, lCB, lBM, lSl, lPart, lNext, lIt, lRng1, lRng2, lAsg, lPar, lSetI, lSetA, lAugS, lLc, lZip, lNeg, lCall, lChain, List.getElem?_cons_zero, List.getElem?_cons_succ, List.set_cons_zero, List.set_cons_succ, wipeE, intP, intE]
    try refine ⟨by simp [isTy], ?_⟩
    refine ia_t (x := tx xs) rfl ?_
    simp only [tx, srcE, itemsE]
    refine lc_keep (α := Int) EV.int (fun x => some (EV.str (TL.numL x.toNat))) xs (by have : xs.length ≤ 100 := nl; omega) (fun _ _ => trivial) (fun x hx h' ky kn k hy hn => ?_) fun h2 k2 e2 => ?_
    · refine bind_nm ?_
      simp only [List.set_cons_zero, List.set_cons_succ, lSet, lRet, lRetN, lDrop, lOp, lVar, lC, lB, lT, lAnd, lOr, lNot, lIf, lAndV, lOrV, lNotV, lNil, lCons, lTup, lLst, lCB, lBM, lSl, lPart, lNext, lIt, lRng1, lRng2, lAsg, lPar, lSetI, lSetA, lAugS, lLc, lZip, lNeg, lCall, lChain, List.getElem?_cons_zero, List.getElem?_cons_succ, List.set_cons_zero, List.set_cons_succ, wipeE, intP, intE, wipeE, lYes, if_true]
      exact str_num (rg x hx) (hy _ rfl _ .refl)
    · rw [fm_num] at e2
      simp only [joinE, e2]
      have ne : (xs.map fun x => TL.numL x.toNat) ≠ [] := fun e => z.z.ok (List.map_eq_nil_iff.mp e)
      have jl : lineS (.put xs) = [112, 117, 116, 32] ++ TL.joinL [32] (xs.map fun x => TL.numL x.toNat) ++ [10] := by
        show TL.joinL [32] (sPut :: xs.map fun x => TL.numL x.toNat) ++ [10] = _
        cases e : (xs.map fun x => TL.numL x.toNat) with
        | nil => exact absurd e ne
        | cons y ys => rw [TL.joinL]; rfl
      have sm := sum_le (ws := xs.map fun x => TL.numL x.toNat) (k := 10) fun w hw => by
        obtain ⟨x, hx, rfl⟩ := List.mem_map.mp hw
        exact num_len (rg x hx)
      have xl : xs.length ≤ 100 := nl
      rw [List.length_map] at sm
      rw [jl] at ll
      simp only [List.length_append] at ll
      refine ⟨_, rfl, by simp only [List.length_map, List.length_singleton] at sm ⊢; omega, ?_⟩
      refine add_s (by omega) (add_s (by rw [List.length_append]; omega) ?_)
      rw [← jl]
      exact q _ k2
theorem fm_line (D : Delta) : (D.filterMap fun d => some (EV.str (lineS d))) = (D.map lineS).map EV.str := by
  induction D with
  | nil => rfl
  | cons c w ih => rw [List.filterMap_cons]; exact congrArg (List.cons _) ih
theorem pure_written (ad : Ad) (evs : List EV) (h : EH) (Q : EK) (q : sp_written ad evs h Q) : t_written ad (endsOf Q) (startE N_written evs) h := by
  obtain ⟨r, D, rfl, e, z, hl, q⟩ := q
  show t_written ad (endsOf Q) [some (.ref r), none] h
  unfold t_written
  simp only [lRet, lSet, lRet, lRetN, lDrop, lOp, lVar, lC, lB, lT, lAnd, lOr, lNot, lIf, lAndV, lOrV, lNotV, lNil, lCons, lTup, lLst, lCB, lBM, lSl, lPart, lNext, lIt, lRng1, lRng2, lAsg, lPar, lSetI, lSetA, lAugS, lLc, lZip, lNeg, lCall, lChain, List.getElem?_cons_zero, List.getElem?_cons_succ, List.set_cons_zero, List.set_cons_succ, wipeE, intP, intE, srcE, e]
  try refine ⟨by simp [isTy], ?_⟩
  refine lc_keep (α := Dd) Dd.e (fun d => some (EV.str (lineS d))) D (by omega) (fun h' k => k.at e) (fun d hd h' ky kn k hy hn => ?_) fun h2 k2 e2 => ?_
  · refine bind_nm ?_
    simp only [List.set_cons_zero, List.set_cons_succ, lSet, lRet, lRetN, lDrop, lOp, lVar, lC, lB, lT, lAnd, lOr, lNot, lIf, lAndV, lOrV, lNotV, lNil, lCons, lTup, lLst, lCB, lBM, lSl, lPart, lNext, lIt, lRng1, lRng2, lAsg, lPar, lSetI, lSetA, lAugS, lLc, lZip, lNeg, lCall, lChain, List.getElem?_cons_zero, List.getElem?_cons_succ, List.set_cons_zero, List.set_cons_succ, wipeE, intP, intE, wipeE, lYes, if_true, lCall]
    exact ⟨d, rfl, z d hd, fun h3 k3 => hy _ rfl _ k3⟩
  · rw [fm_line] at e2
    simp only [joinE, e2]
    have sm := sum_le (ws := D.map lineS) (k := 1200) fun w hw => by
      obtain ⟨d, hd, rfl⟩ := List.mem_map.mp hw
      exact lineS_len (z d hd)
    refine ⟨_, rfl, by simp only [List.length_map, List.length_nil] at sm ⊢; omega, ?_⟩
    rw [join_nil]
    exact q _ k2
theorem pure__law_lines (ad : Ad) (evs : List EV) (h : EH) (Q : EK) (q : sp__law_lines ad evs h Q) : t__law_lines ad (endsOf Q) (startE N__law_lines evs) h := by
  obtain ⟨r, D, rfl, e, z, hl, q⟩ := q
  show t__law_lines ad (endsOf Q) [some (.ref r), none] h
  unfold t__law_lines
  simp only [lRet, lSet, lRet, lRetN, lDrop, lOp, lVar, lC, lB, lT, lAnd, lOr, lNot, lIf, lAndV, lOrV, lNotV, lNil, lCons, lTup, lLst, lCB, lBM, lSl, lPart, lNext, lIt, lRng1, lRng2, lAsg, lPar, lSetI, lSetA, lAugS, lLc, lZip, lNeg, lCall, lChain, List.getElem?_cons_zero, List.getElem?_cons_succ, List.set_cons_zero, List.set_cons_succ, wipeE, intP, intE, srcE, e]
  try refine ⟨by simp [isTy], ?_⟩
  refine lc_keep (α := Dd) Dd.e (fun d => some (EV.str (lineS d))) D (by omega) (fun h' k => k.at e) (fun d hd h' ky kn k hy hn => ?_) fun h2 k2 e2 => ?_
  · refine bind_nm ?_
    simp only [List.set_cons_zero, List.set_cons_succ, lSet, lRet, lRetN, lDrop, lOp, lVar, lC, lB, lT, lAnd, lOr, lNot, lIf, lAndV, lOrV, lNotV, lNil, lCons, lTup, lLst, lCB, lBM, lSl, lPart, lNext, lIt, lRng1, lRng2, lAsg, lPar, lSetI, lSetA, lAugS, lLc, lZip, lNeg, lCall, lChain, List.getElem?_cons_zero, List.getElem?_cons_succ, List.set_cons_zero, List.set_cons_succ, wipeE, intP, intE, wipeE, lYes, if_true, lCall]
    exact ⟨d, rfl, z d hd, fun h3 k3 => hy _ rfl _ k3⟩
  · rw [fm_line] at e2
    simp only [joinE, e2]
    have sm := sum_le (ws := D.map lineS) (k := 1200) fun w hw => by
      obtain ⟨d, hd, rfl⟩ := List.mem_map.mp hw
      exact lineS_len (z d hd)
    refine ⟨_, rfl, by simp only [List.length_map, List.length_nil] at sm ⊢; omega, ?_⟩
    rw [join_nil]
    exact q _ k2
end Y

namespace Y
open PySem PySem.Spec PyProof.Rows L2

def whatV : List (Option Nat) → EV
  | [o] => optN o
  | _ => .non
def deedV (w : List Nat) (ns : List (Option Nat)) : EV := if w = sPut then .tup [.str w, .tup (ns.map optN)] else .tup [.str w, whatV ns]
theorem let_opt (o : Option Nat) : letB (optN o) = okN o := by
  cases o with
  | none => rfl
  | some n =>
    show (decide ((0 : Int) ≤ (n : Nat)) && decide (((n : Nat) : Int) ≤ 1000000000)) = decide (n ≤ 1000000000)
    rw [decide_eq_true (by omega), Bool.true_and, decide_eq_decide]
    omega
theorem text_opt (ns : List (Option Nat)) : textB (.tup (ns.map optN)) = ns.all okN := by
  show (ns.map optN).all letB = _
  rw [List.all_map]
  exact congrArg (List.all ns) (funext let_opt)
theorem map_opt : ∀ {ns : List (Option Nat)}, ns.all okN = true → ns.map optN = (ns.map fun o => ((o.getD 0 : Nat) : Int)).map EV.int
  | [], _ => rfl
  | o :: ns, h => by
    rw [List.all_cons, Bool.and_eq_true] at h
    cases o with
    | none => cases h.1
    | some n =>
      rw [List.map_cons, List.map_cons, List.map_cons, map_opt h.2]
      rfl
theorem deedV_ok (w : List Nat) (ns : List (Option Nat)) : deedB (deedV w ns) = (deedW w ns).isSome ∧ ∀ d, deedW w ns = some d → deedV w ns = d.e := by
  unfold deedV deedW
  by_cases hp : w = sPut
  · rw [if_pos hp, if_pos hp, hp]
    show (textB (.tup (ns.map optN)) && notMt (.tup (ns.map optN))) = _ ∧ _
    rw [text_opt]
    by_cases h : ns ≠ [] ∧ ns.all okN = true
    · rw [if_pos h, h.2]
      refine ⟨?_, fun d e => ?_⟩
      · cases ns with
        | nil => exact absurd rfl h.1
        | cons o ns => rfl
      · cases e
        rw [map_opt h.2]; rfl
    · rw [if_neg h]
      refine ⟨?_, fun d e => by cases e⟩
      by_cases h1 : ns = []
      · subst h1; rfl
      · have : ns.all okN = false := by
          cases e : ns.all okN with
          | false => rfl
          | true => exact absurd ⟨h1, e⟩ h
        rw [this]; rfl
  · rw [if_neg hp, if_neg hp]
    have e1 : ∀ v, deedB (.tup [.str w, v]) = (decide (w = sKeep ∨ w = sDrop) && isBt v 1 1000000000) := fun v => by
      show (if w = sPut then _ else _) = _
      rw [if_neg hp]
    rw [e1]
    match ns with
    | [] => exact ⟨by simp [whatV, isBt], fun d e => by cases e⟩
    | none :: [] => exact ⟨by simp [whatV, optN, isBt], fun d e => by cases e⟩
    | some n :: [] =>
      have e2 : isBt (whatV [some n]) 1 1000000000 = decide (1 ≤ n ∧ n ≤ 1000000000) := by
        show (decide ((1 : Int) ≤ (n : Nat)) && decide (((n : Nat) : Int) ≤ 1000000000)) = _
        rw [← Bool.decide_and, decide_eq_decide]
        omega
      rw [e2]
      dsimp only
      by_cases h : 1 ≤ n ∧ n ≤ 1000000000
      · rw [if_pos h, decide_eq_true h, Bool.and_true]
        by_cases hk : w = sKeep
        · rw [if_pos hk, decide_eq_true (Or.inl hk)]
          exact ⟨rfl, fun d e => by cases e; rw [hk]; rfl⟩
        · rw [if_neg hk]
          by_cases hd : w = sDrop
          · rw [if_pos hd, decide_eq_true (Or.inr hd)]
            exact ⟨rfl, fun d e => by cases e; rw [hd]; rfl⟩
          · rw [if_neg hd, decide_eq_false (fun z => z.elim hk hd)]
            exact ⟨rfl, fun d e => by cases e⟩
      · rw [if_neg h, decide_eq_false h, Bool.and_false]
        exact ⟨rfl, fun d e => by cases e⟩
    | none :: _ :: _ => exact ⟨by simp [whatV, isBt], fun d e => by cases e⟩
    | some _ :: _ :: _ => exact ⟨by simp [whatV, isBt], fun d e => by cases e⟩
theorem splC_mem (c : Nat) : ∀ (s : List Nat), ∀ w ∈ splC c s, w.length ≤ s.length
  | [], w, h => by rw [splC, List.mem_singleton] at h; subst h; exact Nat.le_refl _
  | x :: r, w, h => by
    have ih := splC_mem c r
    rw [splC] at h
    rw [List.length_cons]
    split at h
    · rcases List.mem_cons.mp h with rfl | h
      · simp
      · have := ih w h; omega
    · have ne := splC_ne c r
      cases e : splC c r with
      | nil => exact absurd e ne
      | cons y ys =>
        rw [e] at h ih
        rcases List.mem_cons.mp h with rfl | h
        · have := ih y (by simp); simp; omega
        · have := ih w (by simp [h]); omega
theorem splC_count (c : Nat) : ∀ (s : List Nat), (splC c s).length = s.count c + 1
  | [] => rfl
  | x :: r => by
    have ih := splC_count c r
    rw [splC, List.count_cons]
    split
    · rename_i h; subst h; simp [ih]
    · rename_i h
      have ne := splC_ne c r
      cases e : splC c r with
      | nil => exact absurd e ne
      | cons y ys => rw [e] at ih; simp [h] at ih ⊢; omega
structure LnT (l : List Nat) : Prop where
  ln : l.length ≤ 100000
  sp : l.count 32 ≤ 900
def sp_deed_in (ad : Ad) : LSp := fun evs h Q => ∃ l : List Nat, evs = [.str l] ∧ LnT l ∧ ∀ h', Keep no1 h h' → Q (optDd (deedT l)) h'
def sp__law_deed (ad : Ad) : LSp := fun evs h Q => ∃ l : List Nat, evs = [.str l] ∧ LnT l ∧ ∀ h', Keep no1 h h' → Q (optDd (deedT l)) h'
abbrev N_deed_in : List Str := ["line", "words", "numbers", "found", "word"]
def t_deed_in (ad : Ad) : LS :=
    lSeq (lSet (lBM "str" splitE (lVar 0) (lCons (lC (.str [32])) (lNil))) 1) <|
    lSeq (lSet (lCB tupleOf (lCons (lLc (lIt (lSl (lVar 1) (lPart (some (lC (.int 1)))) (lPart none))) (.nm 4) (lYes) (lCall (sp_number_in ad) (lCons (lVar 4) (lNil))) [4]) (lNil))) 2) <|
    lSeq (lIfS (lB (lOp (eqE false) (lOp ixA (lVar 1) (lC (.int 0))) (lC (.str [112, 117, 116]))))
      (lSet (lTup (lCons (lC (.str [112, 117, 116])) (lCons (lVar 2) (lNil)))) 3)
      (lSet (lTup (lCons (lOp ixA (lVar 1) (lC (.int 0))) (lCons (lIf (lB (lOp (eqE false) (lCB lenE (lCons (lVar 2) (lNil))) (lC (.int 1)))) (lOp ixA (lVar 2) (lC (.int 0))) (lC .non)) (lNil)))) 3)) <|
    lRet (lIf (lT (lCall (sp_is_deed_k94 ad) (lCons (lVar 3) (lNil)))) (lVar 3) (lC .non))
abbrev N__law_deed : List Str := ["_law_line_here", "_law_words", "_law_numbers", "_law_word", "_law_one_here"]
def t__law_deed (ad : Ad) : LS :=
    lSeq (lSet (lBM "str" splitE (lVar 0) (lCons (lC (.str [32])) (lNil))) 1) <|
    lSeq (lSet (lLc (lIt (lSl (lVar 1) (lPart (some (lC (.int 1)))) (lPart none))) (.nm 3) (lYes) (lCall (sp__law_number ad) (lCons (lVar 3) (lNil))) [3]) 2) <|
    lSeq (lIfS (lOr (lB (lOp (eqE true) (lLc (lIt (lVar 2)) (.nm 4) (lOr (lB (lOp ltE (lVar 4) (lC (.int 0)))) (lB (lOp gtE (lVar 4) (lOp powE (lC (.int 10)) (lC (.int 9)))))) (lVar 4) [4]) (lLst (lNil)))) (lB (lOp (eqE false) (lVar 2) (lLst (lNil)))))
      (lRet (lC .non))
      (lNext)) <|
    lSeq (lIfS (lB (lOp (eqE false) (lOp ixA (lVar 1) (lC (.int 0))) (lC (.str [112, 117, 116]))))
      (lRet (lTup (lCons (lC (.str [112, 117, 116])) (lCons (lCB tupleOf (lCons (lVar 2) (lNil))) (lNil)))))
      (lNext)) <|
    lSeq (lIfS (lOr (lB (lOp (inA true) (lOp ixA (lVar 1) (lC (.int 0))) (lTup (lCons (lC (.str [107, 101, 101, 112])) (lCons (lC (.str [100, 114, 111, 112])) (lNil)))))) (lOr (lB (lOp (eqE true) (lCB lenE (lCons (lVar 2) (lNil))) (lC (.int 1)))) (lB (lOp (eqE false) (lOp ixA (lVar 2) (lC (.int 0))) (lC (.int 0))))))
      (lRet (lC .non))
      (lNext)) <|
    lRet (lTup (lCons (lOp ixA (lVar 1) (lC (.int 0))) (lCons (lOp ixA (lVar 2) (lC (.int 0))) (lNil))))
theorem len_deed_in (ad : Ad) (evs : List EV) (h : EH) (Q : EK) (q : sp_deed_in ad evs h Q) : evs.length = ["line"].length := by
  obtain ⟨_, rfl, _⟩ := q; rfl
theorem len__law_deed (ad : Ad) (evs : List EV) (h : EH) (Q : EK) (q : sp__law_deed ad evs h Q) : evs.length = ["_law_line_here"].length := by
  obtain ⟨_, rfl, _⟩ := q; rfl
theorem kn_opt {h : EH} (o : Option Nat) : Kn h (optN o) := by
  cases o with
  | none => exact ⟨⟨"NoneType", fun _ _ => rfl⟩, fun _ e => by cases e⟩
  | some n => exact kn_int _
theorem fm_opt (ws : List (List Nat)) : (ws.filterMap fun w => some (optN (numI w))) = (ws.map numI).map optN := by
  induction ws with
  | nil => rfl
  | cons c w ih => rw [List.filterMap_cons]; exact congrArg (List.cons _) ih
theorem fm_law (ws : List (List Nat)) : (ws.filterMap fun w => some (EV.int (lawN (numI w)))) = ((ws.map numI).map lawN).map EV.int := by
  induction ws with
  | nil => rfl
  | cons c w ih => rw [List.filterMap_cons]; exact congrArg (List.cons _) ih
theorem pure_deed_in (ad : Ad) (evs : List EV) (h : EH) (Q : EK) (q : sp_deed_in ad evs h Q) : t_deed_in ad (endsOf Q) (startE N_deed_in evs) h := by
  obtain ⟨l, rfl, ⟨ll, ls⟩, q⟩ := q
  show t_deed_in ad (endsOf Q) [some (.str l), none, none, none, none] h
  have sz : sizeLine = 16777216 := sizeL
  have wl := splC_count 32 l
  unfold t_deed_in
  rw [lSeq, lSet]
  simp only [lSet, lRet, lRetN, lDrop, lOp, lVar, lC, lB, lT, lAnd, lOr, lNot, lIf, lAndV, lOrV, lNotV, lNil, lCons, lTup, lLst, lCB, lBM, lSl, lPart, lNext, lIt, lRng1, lRng2, lAsg, lPar, lSetI, lSetA, lAugS, lLc, lZip, lNeg, lCall, lChain, List.getElem?_cons_zero, List.getElem?_cons_succ, List.set_cons_zero, List.set_cons_succ, wipeE, intP, intE, splitE]
  try refine ⟨by simp [isTy], ?_⟩
  refine ⟨by decide, by omega, ?_⟩
  have e1 : (h ++ [EO.lst ((splC 32 l).map EV.str)])[h.length]? = some (.lst ((splC 32 l).map EV.str)) := new_at
  have k1 : Keep no1 h (h ++ [EO.lst ((splC 32 l).map EV.str)]) := Keep.app _
  generalize h ++ [EO.lst ((splC 32 l).map EV.str)] = h1 at e1 k1 ⊢
  generalize h.length = r1 at e1 ⊢
  try simp only [List.set_cons_zero, List.set_cons_succ]
  rw [lSeq, lSet]
  simp only [lSet, lRet, lRetN, lDrop, lOp, lVar, lC, lB, lT, lAnd, lOr, lNot, lIf, lAndV, lOrV, lNotV, lNil, lCons, lTup, lLst, lCB, lBM, lSl, lPart, lNext, lIt, lRng1, lRng2, lAsg, lPar, lSetI, lSetA, lAugS, lLc, lZip, lNeg, lCall, lChain, List.getElem?_cons_zero, List.getElem?_cons_succ, List.set_cons_zero, List.set_cons_succ, wipeE, intP, intE]
  refine sl_l e1 ?_
  rw [show (some (1 : Int)) = some ((1 : Nat) : Int) from rfl, cut_from, ← List.map_drop]
  have e2 : (h1 ++ [EO.lst (((splC 32 l).drop 1).map EV.str)])[h1.length]? = some (.lst (((splC 32 l).drop 1).map EV.str)) := new_at
  have k2 : Keep no1 h1 (h1 ++ [EO.lst (((splC 32 l).drop 1).map EV.str)]) := Keep.app _
  generalize h1 ++ [EO.lst (((splC 32 l).drop 1).map EV.str)] = h2 at e2 k2 ⊢
  generalize h1.length = r2 at e2 ⊢
  simp only [srcE, e2]
  refine lc_keep (α := List Nat) EV.str (fun w => some (optN (numI w))) ((splC 32 l).drop 1) (by rw [List.length_drop]; omega) (fun h' k => k.at e2) (fun w hw h' ky kn k hy hn => ?_) fun h3 k3 e3 => ?_
  · refine bind_nm ?_
    simp only [List.set_cons_zero, List.set_cons_succ, lSet, lRet, lRetN, lDrop, lOp, lVar, lC, lB, lT, lAnd, lOr, lNot, lIf, lAndV, lOrV, lNotV, lNil, lCons, lTup, lLst, lCB, lBM, lSl, lPart, lNext, lIt, lRng1, lRng2, lAsg, lPar, lSetI, lSetA, lAugS, lLc, lZip, lNeg, lCall, lChain, List.getElem?_cons_zero, List.getElem?_cons_succ, List.set_cons_zero, List.set_cons_succ, wipeE, intP, intE, wipeE, lYes, if_true, lCall]
    exact ⟨w, rfl, by have := splC_mem 32 l w (List.mem_of_mem_drop hw); omega, fun h4 k4 => hy _ rfl _ k4⟩
  rw [fm_opt] at e3
  simp only [tupleOf, e3]
  have k03 := (k1.trans k2).trans k3
  have e13 := (k2.trans k3).at e1
  clear e2
  try simp only [List.set_cons_zero, List.set_cons_succ]
  have hw0 : atI ((splC 32 l).map EV.str) 0 = some (.str ((splC 32 l).headD [])) := by
    cases e : splC 32 l with
    | nil => exact absurd e (splC_ne 32 l)
    | cons w ws => exact (atI_n _ 0).trans rfl
  have et : (splC 32 l).drop 1 = (splC 32 l).tail := List.drop_one
  rw [et] at e3 ⊢
  have dT : deedT l = deedW ((splC 32 l).headD []) ((splC 32 l).tail.map numI) := rfl
  have nl : ((splC 32 l).tail.map numI).length ≤ 900 := by rw [List.length_map, List.length_tail]; omega
  generalize (splC 32 l).headD [] = w0 at hw0 dT
  generalize (splC 32 l).tail.map numI = ns at nl dT ⊢
  have dv := deedV_ok w0 ns
  have last : ∀ {x4 : Option EV} (g : EH), Keep no1 h g → lRet (lIf (lT (lCall (sp_is_deed_k94 ad) (lCons (lVar 3) (lNil)))) (lVar 3) (lC .non)) (endsOf Q) [some (.str l), some (.ref r1), some (.tup (ns.map optN)), some (deedV w0 ns), x4] g := by
    intro x4 g kg
    simp only [lRet, lIf, lSet, lRet, lRetN, lDrop, lOp, lVar, lC, lB, lT, lAnd, lOr, lNot, lIf, lAndV, lOrV, lNotV, lNil, lCons, lTup, lLst, lCB, lBM, lSl, lPart, lNext, lIt, lRng1, lRng2, lAsg, lPar, lSetI, lSetA, lAugS, lLc, lZip, lNeg, lCall, lChain, List.getElem?_cons_zero, List.getElem?_cons_succ, List.set_cons_zero, List.set_cons_succ, wipeE, intP, intE, lT, lCall]
    refine ⟨_, rfl, ?_, fun g2 q2 => ?_⟩
    · unfold deedV
      have two : ∀ v, Kn g v → (∀ ys, v = .tup ys → ys.length ≤ 1000 ∧ ∀ y ∈ ys, Kn g y) → Kd g (.tup [.str w0, v]) := fun v kv hv => ⟨kn_tup _, fun xs e => by
        cases e
        refine ⟨by simp, fun x hx => ?_⟩
        simp only [List.mem_cons, List.not_mem_nil, or_false] at hx
        rcases hx with rfl | rfl
        · exact ⟨kn_str _, fun ys e => by cases e⟩
        · exact ⟨kv, hv⟩⟩
      split
      · refine two _ (kn_tup _) fun ys e => ?_
        cases e
        refine ⟨by rw [List.length_map]; omega, fun y hy => ?_⟩
        obtain ⟨o, _, rfl⟩ := List.mem_map.mp hy
        exact kn_opt o
      · have nt : ∀ o ys, optN o ≠ .tup ys := fun o ys e => by cases o <;> cases e
        unfold whatV
        split
        · exact two _ (kn_opt _) fun ys e => absurd e (nt _ ys)
        · exact two _ ⟨⟨"NoneType", fun _ _ => rfl⟩, fun _ e => by cases e⟩ fun ys e => by cases e
    · rw [dv.1]
      have qq := q g2 (kg.trans q2)
      rw [dT] at qq
      cases ed : deedW w0 ns with
      | none =>
        rw [ed] at qq
        simp only [Option.isSome_none, truE, Bool.false_eq_true, if_false]
        exact qq
      | some d =>
        rw [ed] at qq
        simp only [Option.isSome_some, truE, if_true]
        rw [dv.2 d ed]
        exact qq
  rw [lSeq, lIfS]
  simp only [lSet, lRet, lRetN, lDrop, lOp, lVar, lC, lB, lT, lAnd, lOr, lNot, lIf, lAndV, lOrV, lNotV, lNil, lCons, lTup, lLst, lCB, lBM, lSl, lPart, lNext, lIt, lRng1, lRng2, lAsg, lPar, lSetI, lSetA, lAugS, lLc, lZip, lNeg, lCall, lChain, List.getElem?_cons_zero, List.getElem?_cons_succ, List.set_cons_zero, List.set_cons_succ, wipeE, intP, intE]
  refine ia_l e13 hw0 (eq_s ?_)
  by_cases hp : w0 = sPut
  · rw [decide_eq_true (show w0 = [112, 117, 116] from hp)]
    simp only [Bool.false_xor, if_true]
    refine ⟨by simp [sizeL], ?_⟩
    have eV : deedV w0 ns = .tup [.str sPut, .tup (ns.map optN)] := by unfold deedV; rw [if_pos hp, hp]
    have := last (x4 := none) h3 k03
    rw [eV] at this
    exact this
  · rw [decide_eq_false (show ¬ w0 = [112, 117, 116] from hp)]
    simp only [Bool.false_xor, Bool.false_eq_true, if_false]
    refine ia_l e13 hw0 ?_
    have eV : deedV w0 ns = .tup [.str w0, whatV ns] := by unfold deedV; rw [if_neg hp]
    have := last (x4 := none) h3 k03
    rw [eV] at this
    simp only [lenE, List.length_map]
    refine eq_i ?_
    have sz2 : ∀ v : EV, [EV.str w0, v].length ≤ sizeLine := fun v => by simp [sizeL]
    match ns, this with
    | [], this => exact ⟨sz2 _, this⟩
    | [o], this =>
      simp only [List.length_singleton, show decide (((1 : Nat) : Int) = 1) = true from rfl, Bool.false_xor, truE, if_true]
      exact ia_t (x := optN o) rfl ⟨sz2 _, this⟩
    | o :: o2 :: os, this =>
      rw [decide_eq_false (by simp only [List.length_cons]; omega)]
      exact ⟨sz2 _, this⟩
theorem fm_badN (ns : List (Option Nat)) : ((ns.map lawN).filterMap fun i => if i < 0 ∨ 1000000000 < i then some (EV.int i) else none) = ((ns.map lawN).filter fun i => decide (i < 0 ∨ 1000000000 < i)).map EV.int := by
  induction ns with
  | nil => rfl
  | cons o ns ih =>
    rw [List.map_cons, List.filterMap_cons, List.filter_cons]
    by_cases h : lawN o < 0 ∨ 1000000000 < lawN o
    · rw [if_pos h, if_pos (decide_eq_true h), List.map_cons, ih]
    · rw [if_neg h, if_neg (by simpa using h), ih]
theorem okN_law (o : Option Nat) : okN o = !decide (lawN o < 0 ∨ 1000000000 < lawN o) := by
  cases o with
  | none => rfl
  | some n =>
    show decide (n ≤ 1000000000) = !decide (((n : Nat) : Int) < 0 ∨ 1000000000 < ((n : Nat) : Int))
    by_cases h : n ≤ 1000000000
    · rw [decide_eq_true h, decide_eq_false (by omega)]; rfl
    · rw [decide_eq_false h, decide_eq_true (by omega)]; rfl
theorem badN_nil (ns : List (Option Nat)) : decide (((ns.map lawN).filter fun i => decide (i < 0 ∨ 1000000000 < i)) = []) = ns.all okN := by
  rw [Bool.eq_iff_iff, decide_eq_true_eq, List.filter_eq_nil_iff, List.all_eq_true]
  constructor
  · intro h o ho
    have := h (lawN o) (List.mem_map.mpr ⟨o, ho, rfl⟩)
    rw [okN_law]
    simpa using this
  · intro h i hi
    obtain ⟨o, ho, rfl⟩ := List.mem_map.mp hi
    have := h o ho
    rw [okN_law] at this
    simpa using this
theorem lawN_get : ∀ {ns : List (Option Nat)}, ns.all okN = true → ns.map lawN = ns.map fun o => ((o.getD 0 : Nat) : Int)
  | [], _ => rfl
  | o :: ns, h => by
    rw [List.all_cons, Bool.and_eq_true] at h
    cases o with
    | none => cases h.1
    | some n => rw [List.map_cons, List.map_cons, lawN_get h.2]; rfl
theorem deedW_no {w : List Nat} {ns : List (Option Nat)} (h : ¬(ns ≠ [] ∧ ns.all okN = true)) : deedW w ns = none := by
  unfold deedW
  split
  · first | rfl | rw [if_neg h]
  · split
    · rename_i n _
      rw [if_neg]
      rintro ⟨h1, h2⟩
      exact h ⟨by simp, by simp [okN, h2]⟩
    · rfl
theorem deedW_kd {w : List Nat} {ns : List (Option Nat)} (hp : w ≠ sPut) (hk : ¬(w = sKeep ∨ w = sDrop)) : deedW w ns = none := by
  unfold deedW
  rw [if_neg hp]
  split
  · split
    · rw [if_neg (fun z => hk (.inl z)), if_neg (fun z => hk (.inr z))]
    · rfl
  · rfl
theorem pure__law_deed (ad : Ad) (evs : List EV) (h : EH) (Q : EK) (q : sp__law_deed ad evs h Q) : t__law_deed ad (endsOf Q) (startE N__law_deed evs) h := by
  obtain ⟨l, rfl, ⟨ll, ls⟩, q⟩ := q
  show t__law_deed ad (endsOf Q) [some (.str l), none, none, none, none] h
  have sz : sizeLine = 16777216 := sizeL
  have wl := splC_count 32 l
  unfold t__law_deed
  rw [lSeq, lSet]
  simp only [lSet, lRet, lRetN, lDrop, lOp, lVar, lC, lB, lT, lAnd, lOr, lNot, lIf, lAndV, lOrV, lNotV, lNil, lCons, lTup, lLst, lCB, lBM, lSl, lPart, lNext, lIt, lRng1, lRng2, lAsg, lPar, lSetI, lSetA, lAugS, lLc, lZip, lNeg, lCall, lChain, List.getElem?_cons_zero, List.getElem?_cons_succ, List.set_cons_zero, List.set_cons_succ, wipeE, intP, intE, splitE]
  try refine ⟨by simp [isTy], ?_⟩
  refine ⟨by decide, by omega, ?_⟩
  have e1 : (h ++ [EO.lst ((splC 32 l).map EV.str)])[h.length]? = some (.lst ((splC 32 l).map EV.str)) := new_at
  have k1 : Keep no1 h (h ++ [EO.lst ((splC 32 l).map EV.str)]) := Keep.app _
  generalize h ++ [EO.lst ((splC 32 l).map EV.str)] = h1 at e1 k1 ⊢
  generalize h.length = r1 at e1 ⊢
  try simp only [List.set_cons_zero, List.set_cons_succ]
  rw [lSeq, lSet]
  simp only [lSet, lRet, lRetN, lDrop, lOp, lVar, lC, lB, lT, lAnd, lOr, lNot, lIf, lAndV, lOrV, lNotV, lNil, lCons, lTup, lLst, lCB, lBM, lSl, lPart, lNext, lIt, lRng1, lRng2, lAsg, lPar, lSetI, lSetA, lAugS, lLc, lZip, lNeg, lCall, lChain, List.getElem?_cons_zero, List.getElem?_cons_succ, List.set_cons_zero, List.set_cons_succ, wipeE, intP, intE]
  refine sl_l e1 ?_
  rw [show (some (1 : Int)) = some ((1 : Nat) : Int) from rfl, cut_from, ← List.map_drop]
  have e2 : (h1 ++ [EO.lst (((splC 32 l).drop 1).map EV.str)])[h1.length]? = some (.lst (((splC 32 l).drop 1).map EV.str)) := new_at
  have k2 : Keep no1 h1 (h1 ++ [EO.lst (((splC 32 l).drop 1).map EV.str)]) := Keep.app _
  generalize h1 ++ [EO.lst (((splC 32 l).drop 1).map EV.str)] = h2 at e2 k2 ⊢
  generalize h1.length = r2 at e2 ⊢
  simp only [srcE, e2]
  refine lc_keep (α := List Nat) EV.str (fun w => some (.int (lawN (numI w)))) ((splC 32 l).drop 1) (by rw [List.length_drop]; omega) (fun h' k => k.at e2) (fun w hw h' ky kn k hy hn => ?_) fun h3 k3 e3 => ?_
  · refine bind_nm ?_
    simp only [List.set_cons_zero, List.set_cons_succ, lSet, lRet, lRetN, lDrop, lOp, lVar, lC, lB, lT, lAnd, lOr, lNot, lIf, lAndV, lOrV, lNotV, lNil, lCons, lTup, lLst, lCB, lBM, lSl, lPart, lNext, lIt, lRng1, lRng2, lAsg, lPar, lSetI, lSetA, lAugS, lLc, lZip, lNeg, lCall, lChain, List.getElem?_cons_zero, List.getElem?_cons_succ, List.set_cons_zero, List.set_cons_succ, wipeE, intP, intE, wipeE, lYes, if_true, lCall]
    exact ⟨w, rfl, by have := splC_mem 32 l w (List.mem_of_mem_drop hw); omega, fun h4 k4 => hy _ rfl _ k4⟩
  rw [fm_law] at e3
  have k03 := (k1.trans k2).trans k3
  have e13 := (k2.trans k3).at e1
  clear e2
  generalize h2.length = r3 at e3 ⊢
  try simp only [List.set_cons_zero, List.set_cons_succ]
  have hw0 : atI ((splC 32 l).map EV.str) 0 = some (.str ((splC 32 l).headD [])) := by
    cases e : splC 32 l with
    | nil => exact absurd e (splC_ne 32 l)
    | cons w ws => exact (atI_n _ 0).trans rfl
  have et : (splC 32 l).drop 1 = (splC 32 l).tail := List.drop_one
  rw [et] at e3
  have dT : deedT l = deedW ((splC 32 l).headD []) ((splC 32 l).tail.map numI) := rfl
  have nl : ((splC 32 l).tail.map numI).length ≤ 900 := by rw [List.length_map, List.length_tail]; omega
  generalize (splC 32 l).headD [] = w0 at hw0 dT
  generalize (splC 32 l).tail.map numI = ns at nl dT e3 ⊢
  have no : ¬(ns ≠ [] ∧ ns.all okN = true) → ∀ g, Keep no1 h g → Q .non g := fun hn g kg => by
    have := q g kg
    rw [dT, deedW_no hn] at this
    exact this
  rw [lSeq, lIfS]
  simp only [lSet, lRet, lRetN, lDrop, lOp, lVar, lC, lB, lT, lAnd, lOr, lNot, lIf, lAndV, lOrV, lNotV, lNil, lCons, lTup, lLst, lCB, lBM, lSl, lPart, lNext, lIt, lRng1, lRng2, lAsg, lPar, lSetI, lSetA, lAugS, lLc, lZip, lNeg, lCall, lChain, List.getElem?_cons_zero, List.getElem?_cons_succ, List.set_cons_zero, List.set_cons_succ, wipeE, intP, intE, lOr, srcE, e3]
  refine lc_keep (α := Int) EV.int (fun i => if i < 0 ∨ 1000000000 < i then some (EV.int i) else none) (ns.map lawN) (by rw [List.length_map]; omega) (fun h' k => k.at e3) (fun i hi h' ky kn k hy hn => ?_) fun h4 k4 e4 => ?_
  · refine bind_nm ?_
    simp only [List.set_cons_zero, List.set_cons_succ, lSet, lRet, lRetN, lDrop, lOp, lVar, lC, lB, lT, lAnd, lOr, lNot, lIf, lAndV, lOrV, lNotV, lNil, lCons, lTup, lLst, lCB, lBM, lSl, lPart, lNext, lIt, lRng1, lRng2, lAsg, lPar, lSetI, lSetA, lAugS, lLc, lZip, lNeg, lCall, lChain, List.getElem?_cons_zero, List.getElem?_cons_succ, List.set_cons_zero, List.set_cons_succ, wipeE, intP, intE, wipeE, lOr, ltE, intE, intP]
    by_cases c1 : i < 0
    · simp only [c1, decide_true, if_true]
      exact hy _ (by rw [if_pos (.inl c1)]) _ .refl
    · simp only [c1, decide_false, Bool.false_eq_true, if_false]
      refine ⟨by unfold CPow; decide, ?_⟩
      rw [show (10 : Int) ^ Int.toNat 9 = 1000000000 from rfl]
      by_cases c2 : (1000000000 : Int) < i
      · simp only [c2, decide_true, if_true]
        exact hy _ (by rw [if_pos (.inr c2)]) _ .refl
      · simp only [c2, decide_false, Bool.false_eq_true, if_false]
        exact hn (by rw [if_neg (fun z => z.elim c1 c2)]) _ .refl
  rw [fm_badN] at e4
  refine ⟨by simp [sizeL], eqE_nil (app_at e4 _) new_at ?_⟩
  rw [badN_nil]
  have k5 : Keep no1 h3 (h4 ++ [EO.lst []]) := k4.trans (Keep.app _)
  generalize h4 ++ [EO.lst []] = h5 at k5 ⊢
  have k05 := k03.trans k5
  cases ea : ns.all okN with
  | false =>
    simp only [Bool.true_xor, Bool.not_false, if_true, lRet, lC]
    exact no (fun z => by rw [ea] at z; exact absurd z.2 (by decide)) _ k05
  | true =>
    simp only [Bool.true_xor, Bool.not_true, Bool.false_eq_true, if_false]
    refine ⟨by simp [sizeL], eqE_nil (app_at (k5.at e3) _) new_at ?_⟩
    have k6 : Keep no1 h5 (h5 ++ [EO.lst []]) := Keep.app _
    generalize h5 ++ [EO.lst []] = h6 at k6 ⊢
    have k06 := k05.trans k6
    have e36 := (k5.trans k6).at e3
    have e16 := (k5.trans k6).at e13
    by_cases n0 : ns = []
    · rw [decide_eq_true (show ns.map lawN = [] by rw [n0]; rfl)]
      simp only [Bool.false_xor, if_true, lRet, lC]
      exact no (fun z => z.1 n0) _ k06
    · rw [decide_eq_false (show ¬ ns.map lawN = [] from fun z => n0 (List.map_eq_nil_iff.mp z))]
      simp only [Bool.false_xor, Bool.false_eq_true, if_false]
      try refine next_go ?_
      rw [lSeq, lIfS]
      simp only [lSet, lRet, lRetN, lDrop, lOp, lVar, lC, lB, lT, lAnd, lOr, lNot, lIf, lAndV, lOrV, lNotV, lNil, lCons, lTup, lLst, lCB, lBM, lSl, lPart, lNext, lIt, lRng1, lRng2, lAsg, lPar, lSetI, lSetA, lAugS, lLc, lZip, lNeg, lCall, lChain, List.getElem?_cons_zero, List.getElem?_cons_succ, List.set_cons_zero, List.set_cons_succ, wipeE, intP, intE]
      refine ia_l e16 hw0 (eq_s ?_)
      have qq := fun g kg => q g (k06.trans kg)
      by_cases hp : w0 = sPut
      · rw [decide_eq_true (show w0 = [112, 117, 116] from hp)]
        simp only [Bool.false_xor, if_true]
        try simp only [lRet, lSet, lRet, lRetN, lDrop, lOp, lVar, lC, lB, lT, lAnd, lOr, lNot, lIf, lAndV, lOrV, lNotV, lNil, lCons, lTup, lLst, lCB, lBM, lSl, lPart, lNext, lIt, lRng1, lRng2, lAsg, lPar, lSetI, lSetA, lAugS, lLc, lZip, lNeg, lCall, lChain, List.getElem?_cons_zero, List.getElem?_cons_succ, List.set_cons_zero, List.set_cons_succ, wipeE, intP, intE]
        simp only [tupleOf, e36]
        refine ⟨by simp [sizeL], ?_⟩
        have := qq _ .refl
        rw [dT] at this
        unfold deedW at this
        rw [if_pos hp, if_pos ⟨n0, ea⟩, ← lawN_get ea] at this
        exact this
      · rw [decide_eq_false (show ¬ w0 = [112, 117, 116] from hp)]
        simp only [Bool.false_xor, Bool.false_eq_true, if_false]
        try refine next_go ?_
        rw [lSeq, lIfS]
        simp only [lSet, lRet, lRetN, lDrop, lOp, lVar, lC, lB, lT, lAnd, lOr, lNot, lIf, lAndV, lOrV, lNotV, lNil, lCons, lTup, lLst, lCB, lBM, lSl, lPart, lNext, lIt, lRng1, lRng2, lAsg, lPar, lSetI, lSetA, lAugS, lLc, lZip, lNeg, lCall, lChain, List.getElem?_cons_zero, List.getElem?_cons_succ, List.set_cons_zero, List.set_cons_succ, wipeE, intP, intE, lOr]
        refine ia_l e16 hw0 ⟨by simp [sizeL], ?_⟩
        simp only [inA]
        refine ⟨rfl, rfl, ?_⟩
        have e7 : inF (.str w0) [.str [107, 101, 101, 112], .str [100, 114, 111, 112]] = decide (w0 = sKeep ∨ w0 = sDrop) := by
          simp only [inF, List.any_cons, List.any_nil, eqF, Bool.or_false]
          rw [Bool.eq_iff_iff]
          simp only [Bool.or_eq_true, decide_eq_true_eq]
          exact ⟨fun z => z.elim (fun z => .inl z.symm) fun z => .inr z.symm, fun z => z.elim (fun z => .inl z.symm) fun z => .inr z.symm⟩
        rw [e7]
        have q7 := qq _ .refl
        rw [dT] at q7
        unfold deedW at q7
        rw [if_neg hp] at q7
        by_cases hk : w0 = sKeep ∨ w0 = sDrop
        · rw [decide_eq_true hk]
          simp only [Bool.true_xor, Bool.not_true, Bool.false_eq_true, if_false]
          simp only [lenE, e36, List.length_map]
          refine eq_i ?_
          match ns, n0, ea, e36, q7 with
          | [some n], _, ea, e36, q7 =>
            dsimp only at q7
            simp only [List.length_singleton, show decide (((1 : Nat) : Int) = 1) = true from rfl, Bool.true_xor, Bool.not_true, Bool.false_eq_true, if_false]
            have hn : n ≤ 1000000000 := by simpa [okN] using ea
            have a0 : atI (([some n].map lawN).map EV.int) 0 = some (.int n) := (atI_n _ 0).trans rfl
            refine ia_l e36 a0 (eq_i ?_)
            by_cases h0 : n = 0
            · rw [decide_eq_true (show ((n : Nat) : Int) = 0 by omega)]
              simp only [Bool.false_xor, if_true, lRet, lC]
              rw [if_neg (by omega)] at q7
              exact q7
            · rw [decide_eq_false (show ¬ ((n : Nat) : Int) = 0 by omega)]
              simp only [Bool.false_xor, Bool.false_eq_true, if_false]
              try refine next_go ?_
              try simp only [lRet, lSet, lRet, lRetN, lDrop, lOp, lVar, lC, lB, lT, lAnd, lOr, lNot, lIf, lAndV, lOrV, lNotV, lNil, lCons, lTup, lLst, lCB, lBM, lSl, lPart, lNext, lIt, lRng1, lRng2, lAsg, lPar, lSetI, lSetA, lAugS, lLc, lZip, lNeg, lCall, lChain, List.getElem?_cons_zero, List.getElem?_cons_succ, List.set_cons_zero, List.set_cons_succ, wipeE, intP, intE]
              refine ia_l e16 hw0 (ia_l e36 a0 ⟨by simp [sizeL], ?_⟩)
              rw [if_pos ⟨by omega, hn⟩] at q7
              rcases hk with hk | hk
              · rw [if_pos hk] at q7
                rw [hk]
                exact q7
              · rw [if_neg (by rw [hk]; decide), if_pos hk] at q7
                rw [hk]
                exact q7
          | none :: _, _, ea, _, _ => rw [List.all_cons] at ea; cases ea
          | some _ :: _ :: _, _, _, _, q7 =>
            rw [decide_eq_false (by simp only [List.length_cons]; omega)]
            simp only [Bool.true_xor, Bool.not_false, if_true, lRet, lC]
            exact q7
        · rw [decide_eq_false hk]
          simp only [Bool.true_xor, Bool.not_false, if_true, lRet, lC]
          have q8 := qq _ .refl
          rw [dT, deedW_kd hp hk] at q8
          exact q8
end Y

namespace Y
open PySem PySem.Spec PyProof.Rows L2

theorem splC_cnt (c x : Nat) : ∀ (s : List Nat), ∀ w ∈ splC c s, w.count x ≤ s.count x
  | [], w, h => by rw [splC, List.mem_singleton] at h; subst h; exact Nat.le_refl _
  | y :: r, w, h => by
    have ih := splC_cnt c x r
    rw [splC] at h
    rw [List.count_cons]
    split at h
    · rcases List.mem_cons.mp h with rfl | h
      · simp
      · have := ih w h; omega
    · have ne := splC_ne c r
      cases e : splC c r with
      | nil => exact absurd e ne
      | cons z zs =>
        rw [e] at h ih
        rcases List.mem_cons.mp h with rfl | h
        · have := ih z (by simp)
          rw [List.count_cons]; omega
        · have := ih w (by simp [h]); omega
theorem LnT.line {t : List Nat} (z : LnT t) {l : List Nat} (h : l ∈ splC 10 t) : LnT l :=
  ⟨Nat.le_trans (splC_mem 10 t l h) z.ln, Nat.le_trans (splC_cnt 10 32 t l h) z.sp⟩
theorem cut_init {α : Type} (xs : List α) (h : xs ≠ []) : cut xs none (some (-1)) = xs.dropLast := by
  have h1 : 1 ≤ xs.length := by
    cases xs with
    | nil => exact absurd rfl h
    | cons _ _ => simp
  have e : HT.sIx xs.length xs.length (some (-1)) = xs.length - 1 := by
    unfold HT.sIx
    dsimp only
    rw [if_pos (by decide)]
    omega
  unfold cut
  rw [e, List.dropLast_eq_take]
  simp [HT.sIx]
def RdQ (t : List Nat) (h : EH) (Q : EK) : Prop := ∀ D, readT t = .inr D → ∀ r h', Keep no1 h h' → h.length ≤ r → h'[r]? = some (.lst (D.map Dd.e)) → Q (.ref r) h'
def sp_read__X (ad : Ad) : LSpX := fun evs h Q W => ∃ t : List Nat, evs = [.str t] ∧ LnT t ∧ RdQ t h Q ∧ ∀ k, readT t = .inl k → ∀ h', Keep no1 h h' → W ad.a_BadLine [("line", .int k)] h'
abbrev wBl : List Nat := [66, 97, 100, 76, 105, 110, 101]
def RgQ (t : List Nat) (h : EH) (Q : EK) : Prop := RdQ t h (fun v h' => Q (.tup [.str wDlt, v]) h') ∧ ∀ k, readT t = .inl k → ∀ h', Keep no1 h h' → Q (.tup [.str wBl, .int k]) h'
def sp__law_reading (ad : Ad) : LSp := fun evs h Q => ∃ t : List Nat, evs = [.str t] ∧ LnT t ∧ RgQ t h Q
def sp__law_read (ad : Ad) : LSp := fun evs h Q => ∃ t : List Nat, evs = [.str t] ∧ LnT t ∧ RgQ t h Q
abbrev N_read__X : List Str := ["text", "lines", "found", "number", "line", "deed"]
def t_read__X_3 (ad : Ad) (W : EW) : LS :=
    lRet (lVar 2)
def t_read__X_2 (ad : Ad) (W : EW) : LS :=
    lSeq (lIfS (lB (lOp (eqE true) (lOp ixA (lVar 1) (lNeg (lC (.int 1)))) (lC (.str []))))
      (lRaise W ad.a_BadLine "line" (lOp subE (lCB lenE (lCons (lVar 1) (lNil))) (lC (.int 1))))
      (lNext)) <| t_read__X_3 ad W
def t_read__X_1b_2 (ad : Ad) (W : EW) : LS :=
    lDrop (lBM "list" appendE (lVar 2) (lCons (lVar 5) (lNil)))
def t_read__X_1b_1 (ad : Ad) (W : EW) : LS :=
    lSeq (lIfS (lOr (lB (lOp (isN false) (lVar 5) (lC .non))) (lAnd (lB (lOp (eqE true) (lVar 2) (lLst (lNil)))) (lB (lOp (eqE false) (lOp ixA (lOp ixA (lVar 2) (lNeg (lC (.int 1)))) (lC (.int 0))) (lOp ixA (lVar 5) (lC (.int 0)))))))
      (lRaise W ad.a_BadLine "line" (lVar 3))
      (lNext)) <| t_read__X_1b_2 ad W
def t_read__X_1b_0 (ad : Ad) (W : EW) : LS :=
    lSeq (lSet (lCall (sp_deed_in ad) (lCons (lVar 4) (lNil))) 5) <| t_read__X_1b_1 ad W
def t_read__X_1 (ad : Ad) (W : EW) : LS :=
    lSeq (lFor (lEnum (lCons (lSl (lVar 1) (lPart none) (lPart (some (lNeg (lC (.int 1)))))) (lNil))) (.tp [.nm 3, .nm 4])
      (t_read__X_1b_0 ad W)) <| t_read__X_2 ad W
def t_read__X_0 (ad : Ad) (W : EW) : LS :=
    lSeq (lPar 1 2 (lCons (lBM "str" splitE (lVar 0) (lCons (lC (.str [10])) (lNil))) (lCons (lLst (lNil)) (lNil)))) <| t_read__X_1 ad W
def t_read__X (ad : Ad) (W : EW) : LS :=
    lSeq (lPar 1 2 (lCons (lBM "str" splitE (lVar 0) (lCons (lC (.str [10])) (lNil))) (lCons (lLst (lNil)) (lNil)))) <|
    lSeq (lFor (lEnum (lCons (lSl (lVar 1) (lPart none) (lPart (some (lNeg (lC (.int 1)))))) (lNil))) (.tp [.nm 3, .nm 4])
      (lSeq (lSet (lCall (sp_deed_in ad) (lCons (lVar 4) (lNil))) 5) <|
    lSeq (lIfS (lOr (lB (lOp (isN false) (lVar 5) (lC .non))) (lAnd (lB (lOp (eqE true) (lVar 2) (lLst (lNil)))) (lB (lOp (eqE false) (lOp ixA (lOp ixA (lVar 2) (lNeg (lC (.int 1)))) (lC (.int 0))) (lOp ixA (lVar 5) (lC (.int 0)))))))
      (lRaise W ad.a_BadLine "line" (lVar 3))
      (lNext)) <|
    lDrop (lBM "list" appendE (lVar 2) (lCons (lVar 5) (lNil))))) <|
    lSeq (lIfS (lB (lOp (eqE true) (lOp ixA (lVar 1) (lNeg (lC (.int 1)))) (lC (.str []))))
      (lRaise W ad.a_BadLine "line" (lOp subE (lCB lenE (lCons (lVar 1) (lNil))) (lC (.int 1))))
      (lNext)) <|
    lRet (lVar 2)
abbrev N__law_reading : List Str := ["_law_text", "_law_lines_here", "_law_found", "_law_at", "_law_deed_here"]
def t__law_reading_2 (ad : Ad) : LS :=
    lRet (lIf (lB (lOp (eqE false) (lOp ixA (lVar 1) (lNeg (lC (.int 1)))) (lC (.str [])))) (lTup (lCons (lC (.str [100, 101, 108, 116, 97])) (lCons (lVar 2) (lNil)))) (lTup (lCons (lC (.str [66, 97, 100, 76, 105, 110, 101])) (lCons (lOp subE (lCB lenE (lCons (lVar 1) (lNil))) (lC (.int 1))) (lNil)))))
def t__law_reading_1b_2 (ad : Ad) : LS :=
    lDrop (lBM "list" appendE (lVar 2) (lCons (lVar 4) (lNil)))
def t__law_reading_1b_1 (ad : Ad) : LS :=
    lSeq (lIfS (lOr (lB (lOp (isN false) (lVar 4) (lC .non))) (lAnd (lB (lOp (eqE true) (lVar 2) (lLst (lNil)))) (lB (lOp (eqE false) (lOp ixA (lOp ixA (lVar 2) (lNeg (lC (.int 1)))) (lC (.int 0))) (lOp ixA (lVar 4) (lC (.int 0)))))))
      (lRet (lTup (lCons (lC (.str [66, 97, 100, 76, 105, 110, 101])) (lCons (lVar 3) (lNil)))))
      (lNext)) <| t__law_reading_1b_2 ad
def t__law_reading_1b_0 (ad : Ad) : LS :=
    lSeq (lSet (lCall (sp__law_deed ad) (lCons (lOp ixA (lVar 1) (lVar 3)) (lNil))) 4) <| t__law_reading_1b_1 ad
def t__law_reading_1 (ad : Ad) : LS :=
    lSeq (lFor (lRng1 (lCons (lOp subE (lCB lenE (lCons (lVar 1) (lNil))) (lC (.int 1))) (lNil))) (.nm 3)
      (t__law_reading_1b_0 ad)) <| t__law_reading_2 ad
def t__law_reading_0 (ad : Ad) : LS :=
    lSeq (lPar 1 2 (lCons (lBM "str" splitE (lVar 0) (lCons (lC (.str [10])) (lNil))) (lCons (lLst (lNil)) (lNil)))) <| t__law_reading_1 ad
def t__law_reading (ad : Ad) : LS :=
    lSeq (lPar 1 2 (lCons (lBM "str" splitE (lVar 0) (lCons (lC (.str [10])) (lNil))) (lCons (lLst (lNil)) (lNil)))) <|
    lSeq (lFor (lRng1 (lCons (lOp subE (lCB lenE (lCons (lVar 1) (lNil))) (lC (.int 1))) (lNil))) (.nm 3)
      (lSeq (lSet (lCall (sp__law_deed ad) (lCons (lOp ixA (lVar 1) (lVar 3)) (lNil))) 4) <|
    lSeq (lIfS (lOr (lB (lOp (isN false) (lVar 4) (lC .non))) (lAnd (lB (lOp (eqE true) (lVar 2) (lLst (lNil)))) (lB (lOp (eqE false) (lOp ixA (lOp ixA (lVar 2) (lNeg (lC (.int 1)))) (lC (.int 0))) (lOp ixA (lVar 4) (lC (.int 0)))))))
      (lRet (lTup (lCons (lC (.str [66, 97, 100, 76, 105, 110, 101])) (lCons (lVar 3) (lNil)))))
      (lNext)) <|
    lDrop (lBM "list" appendE (lVar 2) (lCons (lVar 4) (lNil))))) <|
    lRet (lIf (lB (lOp (eqE false) (lOp ixA (lVar 1) (lNeg (lC (.int 1)))) (lC (.str [])))) (lTup (lCons (lC (.str [100, 101, 108, 116, 97])) (lCons (lVar 2) (lNil)))) (lTup (lCons (lC (.str [66, 97, 100, 76, 105, 110, 101])) (lCons (lOp subE (lCB lenE (lCons (lVar 1) (lNil))) (lC (.int 1))) (lNil)))))
abbrev N__law_read : List Str := ["_law_text", "_law_found", "e"]
def t__law_read (ad : Ad) : LS :=
    lSeq (lTry (fun W =>
      lSet (lCallX (sp_read__X ad) W (lCons (lVar 0) (lNil))) 1) [(ad.a_BadLine, "line", .tup [66, 97, 100, 76, 105, 110, 101], 2)]) <|
    lRet (lTup (lCons (lC (.str [100, 101, 108, 116, 97])) (lCons (lVar 1) (lNil))))
theorem len_read__X (ad : Ad) (evs : List EV) (h : EH) (Q : EK) (W : ED) (q : sp_read__X ad evs h Q W) : evs.length = ["text"].length := by
  obtain ⟨_, rfl, _⟩ := q; rfl
theorem len__law_reading (ad : Ad) (evs : List EV) (h : EH) (Q : EK) (q : sp__law_reading ad evs h Q) : evs.length = ["_law_text"].length := by
  obtain ⟨_, rfl, _⟩ := q; rfl
theorem len__law_read (ad : Ad) (evs : List EV) (h : EH) (Q : EK) (q : sp__law_read ad evs h Q) : evs.length = ["_law_text"].length := by
  obtain ⟨_, rfl, _⟩ := q; rfl
theorem last_str {l : List (List Nat)} (h : l ≠ []) : atI (l.map EV.str) (-1) = some (.str (l.getLastD [])) := by
  obtain ⟨a, x, rfl⟩ : ∃ a x, l = a ++ [x] := by
    rcases List.eq_nil_or_concat l with e | ⟨a, x, e⟩
    · exact absurd e h
    · exact ⟨a, x, by simpa using e⟩
  rw [← atI_last' (xs := (a ++ [x]).map EV.str) (n := a.length) (by simp), atI_n]
  simp
theorem last_dd {D : Delta} (h : D ≠ []) : ∃ e : Dd, atI (D.map Dd.e) (-1) = some e.e ∧ (D.map Dd.kind).getLastD 9 = e.kind := by
  obtain ⟨a, x, rfl⟩ : ∃ a x, D = a ++ [x] := by
    rcases List.eq_nil_or_concat D with e | ⟨a, x, e⟩
    · exact absurd e h
    · exact ⟨a, x, by simpa using e⟩
  refine ⟨x, ?_, by simp⟩
  rw [← atI_last' (xs := (a ++ [x]).map Dd.e) (n := a.length) (by simp), atI_n]
  simp
theorem no_go {l : List Nat} {D : Delta} {r2 : Nat} {g : EH} {P : Bool → EH → Prop} {env : En} {iF iD : Nat} (hF : env[iF]? = some (some (.ref r2))) (hD : env[iD]? = some (some (optDd (deedT l)))) (e : g[r2]? = some (.lst (D.map Dd.e)))
    (no : deedT l = none → P true g) (dbl : ∀ d g', deedT l = some d → Keep no1 g g' → D ≠ [] ∧ (D.map Dd.kind).getLastD 9 = d.kind → P true g') (yes : ∀ d g', deedT l = some d → Keep no1 g g' → ¬(D ≠ [] ∧ (D.map Dd.kind).getLastD 9 = d.kind) → P false g') :
    (lOr (lB (lOp (isN false) (lVar iD) (lC .non))) (lAnd (lB (lOp (eqE true) (lVar iF) (lLst (lNil)))) (lB (lOp (eqE false) (lOp ixA (lOp ixA (lVar iF) (lNeg (lC (.int 1)))) (lC (.int 0))) (lOp ixA (lVar iD) (lC (.int 0))))))) env g P := by
  simp only [lOr, lAnd, lB, lOp, lVar, hD, hF, lC, lLst, lNil, lNeg]
  cases ed : deedT l with
  | none =>
    simp only [optDd, isN, Bool.not_false, if_true]
    exact no ed
  | some d =>
    have n1 : ∀ P : EK, P (.bl false) g → isN false (optDd (some d)) .non g P := fun P p => by
      cases d <;> exact p
    refine n1 _ ?_
    simp only [Bool.false_eq_true, if_false]
    refine ⟨by simp [sizeL], eqE_nilD (app_at e _) new_at ?_⟩
    have k1 : Keep no1 g (g ++ [EO.lst []]) := Keep.app _
    by_cases h0 : D = []
    · rw [decide_eq_true h0]
      simp only [Bool.true_xor, Bool.not_true, Bool.false_eq_true, if_false]
      exact yes d _ ed k1 fun z => z.1 h0
    · rw [decide_eq_false h0]
      simp only [Bool.true_xor, Bool.not_false, if_true]
      obtain ⟨x, hx, hk⟩ := last_dd h0
      refine ia_l (app_at e _) hx ?_
      rw [Dd.e_eq x]
      refine ia_t (x := .str x.word) rfl ?_
      show ixA d.e (.int 0) _ _
      rw [Dd.e_eq d]
      refine ia_t (x := .str d.word) rfl (eq_s ?_)
      rw [word_kind]
      by_cases hw : x.kind = d.kind
      · rw [decide_eq_true hw]
        exact dbl d _ ed k1 ⟨h0, hk.trans hw⟩
      · rw [decide_eq_false hw]
        exact yes d _ ed k1 fun z => hw (hk.symm.trans z.2)
theorem readL_cons (l : List Nat) (ls : List (List Nat)) (i : Nat) (D : Delta) : readL (l :: ls) i D = match deedT l with
    | none => .inl i
    | some d => if D ≠ [] ∧ (D.map Dd.kind).getLastD 9 = d.kind then .inl i else readL ls (i + 1) (D ++ [d]) := rfl
theorem pure_read__X (ad : Ad) (evs : List EV) (h0 : EH) (Q : EK) (W : ED) (q : sp_read__X ad evs h0 Q W) (mk : EO) (hmk : isF mk = true) :
    t_read__X ad (fun C fs _ h' => h'[h0.length]? = some mk ∧ W C fs h') (endsOf Q) (startE N_read__X evs) (h0 ++ [mk]) := by
  obtain ⟨t, rfl, tx, q, qx⟩ := q
  have k0 : Keep no1 h0 (h0 ++ [mk]) := Keep.app _
  have em : (h0 ++ [mk])[h0.length]? = some mk := new_at
  clear hmk
  generalize h0 ++ [mk] = h at *
  have sz : sizeLine = 16777216 := sizeL
  have tl := tx.ln
  have ln := splC_count 10 t
  have cl : t.count 10 ≤ t.length := List.count_le_length
  have ne := splC_ne 10 t
  show t_read__X_0 ad _ (endsOf Q) [some (.str t), none, none, none, none, none] h
  unfold t_read__X_0
  rw [lSeq, lPar]
  simp only [lSet, lRet, lRetN, lDrop, lOp, lVar, lC, lB, lT, lAnd, lOr, lNot, lIf, lAndV, lOrV, lNotV, lNil, lCons, lTup, lLst, lCB, lBM, lSl, lPart, lNext, lIt, lRng1, lRng2, lAsg, lPar, lSetI, lSetA, lAugS, lLc, lZip, lNeg, lCall, lChain, List.getElem?_cons_zero, List.getElem?_cons_succ, List.set_cons_zero, List.set_cons_succ, wipeE, intP, intE, splitE, lLst]
  try refine ⟨by simp [isTy], ?_⟩
  refine ⟨by decide, by omega, ?_⟩
  refine ⟨by simp [sizeL], ?_⟩
  have e1 : (h ++ [EO.lst ((splC 10 t).map EV.str)] ++ [EO.lst []])[h.length]? = some (.lst ((splC 10 t).map EV.str)) := app_at new_at _
  have e2 : (h ++ [EO.lst ((splC 10 t).map EV.str)] ++ [EO.lst []])[(h ++ [EO.lst ((splC 10 t).map EV.str)]).length]? = some (.lst ([] : List EV)) := new_at
  have k2 : Keep no1 h (h ++ [EO.lst ((splC 10 t).map EV.str)] ++ [EO.lst []]) := (Keep.app _).trans (Keep.app _)
  have l12 : h.length < (h ++ [EO.lst ((splC 10 t).map EV.str)]).length := by simp
  have l0 := lt_of_at em
  generalize h ++ [EO.lst ((splC 10 t).map EV.str)] ++ [EO.lst []] = h2 at e1 e2 k2 ⊢
  generalize (h ++ [EO.lst ((splC 10 t).map EV.str)]).length = r2 at e2 l12 ⊢
  generalize h.length = r1 at e1 l12 l0 ⊢
  have lr2 := lt_of_at e2
  unfold t_read__X_1
  try dsimp only
  rw [lSeq, lFor]
  simp only [lSet, lRet, lRetN, lDrop, lOp, lVar, lC, lB, lT, lAnd, lOr, lNot, lIf, lAndV, lOrV, lNotV, lNil, lCons, lTup, lLst, lCB, lBM, lSl, lPart, lNext, lIt, lRng1, lRng2, lAsg, lPar, lSetI, lSetA, lAugS, lLc, lZip, lNeg, lCall, lChain, List.getElem?_cons_zero, List.getElem?_cons_succ, List.set_cons_zero, List.set_cons_succ, wipeE, intP, intE, lEnum]
  refine sl_l e1 ?_
  rw [cut_init _ (by simpa using ne), ← List.map_dropLast]
  have e3 : (h2 ++ [EO.lst ((splC 10 t).dropLast.map EV.str)])[h2.length]? = some (.lst ((splC 10 t).dropLast.map EV.str)) := new_at
  have k3 : Keep no1 h2 (h2 ++ [EO.lst ((splC 10 t).dropLast.map EV.str)]) := Keep.app _
  have l3 : r2 < h2.length := lr2
  generalize h2 ++ [EO.lst ((splC 10 t).dropLast.map EV.str)] = h3 at e3 k3 ⊢
  generalize h2.length = r3 at e3 l3 ⊢
  simp only [srcE, notTupE, e3]
  refine ⟨trivial, ?_⟩
  refine loop_num EV.str (splC 10 t).dropLast (fun a b env h' => ∃ (D : Delta) (x3 x4 x5 : Option EV), env = [some (.str t), some (.ref r1), some (.ref r2), x3, x4, x5] ∧ Keep no1 h0 h' ∧ h'[h0.length]? = some mk ∧ h'[r1]? = some (.lst ((splC 10 t).map EV.str)) ∧ h'[r2]? = some (.lst (D.map Dd.e)) ∧ h'[r3]? = some (.lst ((splC 10 t).dropLast.map EV.str)) ∧ D.length ≤ a.length ∧ readL (splC 10 t).dropLast 0 [] = readL b a.length D) ?_ ?_ _ _ ⟨[], none, none, none, rfl, (k0.trans k2).trans k3, (k2.trans k3).at em, k3.at e1, k3.at e2, e3, Nat.le_refl _, rfl⟩
  · rintro env h' ⟨D, x3, x4, x5, rfl, kk, em', er1, er2, er3, dl, el⟩
    refine ⟨er3, ?_⟩
    rw [readL] at el
    have rt : readT t = if (splC 10 t).getLastD [] = [] then .inr D else .inl ((splC 10 t).length - 1) := by unfold readT; rw [el]
    unfold t_read__X_2
    try dsimp only
    rw [lSeq, lIfS]
    simp only [lSet, lRet, lRetN, lDrop, lOp, lVar, lC, lB, lT, lAnd, lOr, lNot, lIf, lAndV, lOrV, lNotV, lNil, lCons, lTup, lLst, lCB, lBM, lSl, lPart, lNext, lIt, lRng1, lRng2, lAsg, lPar, lSetI, lSetA, lAugS, lLc, lZip, lNeg, lCall, lChain, List.getElem?_cons_zero, List.getElem?_cons_succ, List.set_cons_zero, List.set_cons_succ, wipeE, intP, intE, lNeg]
    refine ia_l er1 (last_str ne) (eq_s ?_)
    by_cases c : (splC 10 t).getLastD [] = []
    · rw [if_pos c] at rt
      rw [decide_eq_true c]
      simp only [Bool.true_xor, Bool.not_true, Bool.false_eq_true, if_false]
      try refine next_go ?_
      unfold t_read__X_3
      simp only [lRet, lVar, List.getElem?_cons_zero, List.getElem?_cons_succ]
      exact q D rt r2 h' kk (by omega) er2
    · rw [if_neg c] at rt
      rw [decide_eq_false c]
      simp only [Bool.true_xor, Bool.not_false, if_true, lRaise, lOp, lCB, lCons, lNil, lVar, lC, List.getElem?_cons_zero, List.getElem?_cons_succ, lenE, er1, List.length_map, subE, intP]
      rw [show (((splC 10 t).length : Nat) : Int) - 1 = (((splC 10 t).length - 1 : Nat) : Int) by omega]
      exact ⟨em', qx _ rt _ kk⟩
  · rintro a l b env h' kk2 ex ⟨D, x3, x4, x5, rfl, kk, em', er1, er2, er3, dl, el⟩ hk
    refine ⟨er3, ?_⟩
    simp only [lBind, Pat.bind, Pat.binds, List.set_cons_zero, List.set_cons_succ]
    have lm : l ∈ splC 10 t := (List.dropLast_sublist _).mem (by rw [ex]; simp)
    have al : a.length ≤ 100000 := by
      have := congrArg List.length ex
      rw [List.length_append, List.length_cons, List.length_dropLast] at this
      omega
    rw [readL_cons] at el
    unfold t_read__X_1b_0
    rw [lSeq, lSet]
    simp only [lSet, lRet, lRetN, lDrop, lOp, lVar, lC, lB, lT, lAnd, lOr, lNot, lIf, lAndV, lOrV, lNotV, lNil, lCons, lTup, lLst, lCB, lBM, lSl, lPart, lNext, lIt, lRng1, lRng2, lAsg, lPar, lSetI, lSetA, lAugS, lLc, lZip, lNeg, lCall, lChain, List.getElem?_cons_zero, List.getElem?_cons_succ, List.set_cons_zero, List.set_cons_succ, wipeE, intP, intE, lCall]
    refine ⟨l, rfl, tx.line lm, fun h4 k4 => ?_⟩
    try simp only [List.set_cons_zero, List.set_cons_succ]
    unfold t_read__X_1b_1
    try dsimp only
    rw [lSeq, lIfS]
    refine no_go (l := l) (D := D) (r2 := r2) rfl rfl (k4.at er2) (fun ed => ?_) (fun d g' ed k5 c => ?_) fun d g' ed k5 c => ?_
    · rw [ed] at el
      have rt : readT t = .inl a.length := by unfold readT; rw [el]
      simp only [if_true, lRaise, lVar, List.getElem?_cons_zero, List.getElem?_cons_succ]
      exact ⟨k4.at em', qx _ rt _ (kk.trans k4)⟩
    · rw [ed] at el
      dsimp only at el
      rw [if_pos c] at el
      have rt : readT t = .inl a.length := by unfold readT; rw [el]
      simp only [if_true, lRaise, lVar, List.getElem?_cons_zero, List.getElem?_cons_succ]
      exact ⟨(k4.trans k5).at em', qx _ rt _ (kk.trans (k4.trans k5))⟩
    · rw [ed] at el
      dsimp only at el
      rw [if_neg c] at el
      have k45 := k4.trans k5
      have er2' := k45.at er2
      simp only [Bool.false_eq_true, if_false]
      try refine next_go ?_
      unfold t_read__X_1b_2
      rw [lDrop]
      simp only [lSet, lRet, lRetN, lDrop, lOp, lVar, lC, lB, lT, lAnd, lOr, lNot, lIf, lAndV, lOrV, lNotV, lNil, lCons, lTup, lLst, lCB, lBM, lSl, lPart, lNext, lIt, lRng1, lRng2, lAsg, lPar, lSetI, lSetA, lAugS, lLc, lZip, lNeg, lCall, lChain, List.getElem?_cons_zero, List.getElem?_cons_succ, List.set_cons_zero, List.set_cons_succ, wipeE, intP, intE]
      refine ⟨isTy_l er2', app_f er2' (by rw [List.length_map, sizeL]; omega) ?_⟩
      rw [ed]
      refine hk _ _ ⟨D ++ [d], some (.int (a.length : Nat)), some (.str l), some d.e, rfl, (kk.trans k45).fresh (by omega), set_off (k45.at em') (by omega), set_off (k45.at er1) (by omega), by rw [set_at er2', List.map_append]; rfl, set_off (k45.at er3) (by omega), by simp; omega, by rw [el, List.length_append]; rfl⟩
theorem pure__law_read (ad : Ad) (evs : List EV) (h : EH) (Q : EK) (q : sp__law_read ad evs h Q) : t__law_read ad (endsOf Q) (startE N__law_read evs) h := by
  obtain ⟨t, rfl, tx, q, qx⟩ := q
  show t__law_read ad (endsOf Q) [some (.str t), none, none] h
  unfold t__law_read
  rw [lSeq, lTry]
  intro mk hmk
  have k0 : Keep no1 h (h ++ [mk]) := Keep.app _
  simp only [lSet, lRet, lRetN, lDrop, lOp, lVar, lC, lB, lT, lAnd, lOr, lNot, lIf, lAndV, lOrV, lNotV, lNil, lCons, lTup, lLst, lCB, lBM, lSl, lPart, lNext, lIt, lRng1, lRng2, lAsg, lPar, lSetI, lSetA, lAugS, lLc, lZip, lNeg, lCall, lChain, List.getElem?_cons_zero, List.getElem?_cons_succ, List.set_cons_zero, List.set_cons_succ, wipeE, intP, intE, lCallX]
  refine ⟨t, rfl, tx, fun D en r h2 k2 l2 e2 => ⟨by simp [sizeL], q D en r h2 (k0.trans k2) (by simp at l2; omega) e2⟩, fun k ek h2 k2 => ?_⟩
  exact ⟨k2.at new_at, .inl ⟨rfl, _, rfl, qx _ ek _ (k0.trans k2)⟩⟩
theorem pure__law_reading (ad : Ad) (evs : List EV) (h : EH) (Q : EK) (q : sp__law_reading ad evs h Q) : t__law_reading ad (endsOf Q) (startE N__law_reading evs) h := by
  obtain ⟨t, rfl, tx, q, qx⟩ := q
  have sz : sizeLine = 16777216 := sizeL
  have tl := tx.ln
  have ln := splC_count 10 t
  have cl : t.count 10 ≤ t.length := List.count_le_length
  have ne := splC_ne 10 t
  show t__law_reading_0 ad (endsOf Q) [some (.str t), none, none, none, none] h
  unfold t__law_reading_0
  rw [lSeq, lPar]
  simp only [lSet, lRet, lRetN, lDrop, lOp, lVar, lC, lB, lT, lAnd, lOr, lNot, lIf, lAndV, lOrV, lNotV, lNil, lCons, lTup, lLst, lCB, lBM, lSl, lPart, lNext, lIt, lRng1, lRng2, lAsg, lPar, lSetI, lSetA, lAugS, lLc, lZip, lNeg, lCall, lChain, List.getElem?_cons_zero, List.getElem?_cons_succ, List.set_cons_zero, List.set_cons_succ, wipeE, intP, intE, splitE, lLst]
  try refine ⟨by simp [isTy], ?_⟩
  refine ⟨by decide, by omega, ?_⟩
  refine ⟨by simp [sizeL], ?_⟩
  have e1 : (h ++ [EO.lst ((splC 10 t).map EV.str)] ++ [EO.lst []])[h.length]? = some (.lst ((splC 10 t).map EV.str)) := app_at new_at _
  have e2 : (h ++ [EO.lst ((splC 10 t).map EV.str)] ++ [EO.lst []])[(h ++ [EO.lst ((splC 10 t).map EV.str)]).length]? = some (.lst ([] : List EV)) := new_at
  have k2 : Keep no1 h (h ++ [EO.lst ((splC 10 t).map EV.str)] ++ [EO.lst []]) := (Keep.app _).trans (Keep.app _)
  have l12 : h.length < (h ++ [EO.lst ((splC 10 t).map EV.str)]).length := by simp
  generalize h ++ [EO.lst ((splC 10 t).map EV.str)] ++ [EO.lst []] = h2 at e1 e2 k2 ⊢
  generalize (h ++ [EO.lst ((splC 10 t).map EV.str)]).length = r2 at e2 l12 ⊢
  have l2 : h.length < r2 := l12
  generalize hr1 : h.length = r1 at e1 l12
  unfold t__law_reading_1
  try dsimp only
  rw [lSeq, lFor]
  simp only [lSet, lRet, lRetN, lDrop, lOp, lVar, lC, lB, lT, lAnd, lOr, lNot, lIf, lAndV, lOrV, lNotV, lNil, lCons, lTup, lLst, lCB, lBM, lSl, lPart, lNext, lIt, lRng1, lRng2, lAsg, lPar, lSetI, lSetA, lAugS, lLc, lZip, lNeg, lCall, lChain, List.getElem?_cons_zero, List.getElem?_cons_succ, List.set_cons_zero, List.set_cons_succ, wipeE, intP, intE, lenE, e1, List.length_map, subE, intP]
  rw [show (((splC 10 t).length : Nat) : Int) - 1 = (((splC 10 t).length - 1 : Nat) : Int) by omega]
  refine ⟨⟨by omega, by omega⟩, ?_⟩
  rw [show ((((splC 10 t).length - 1 : Nat) : Int)).toNat = (splC 10 t).length - 1 by omega]
  refine loop_nat ((splC 10 t).length - 1) (fun i env h' => ∃ (D : Delta) (x3 x4 : Option EV), env = [some (.str t), some (.ref r1), some (.ref r2), x3, x4] ∧ Keep no1 h h' ∧ h'[r1]? = some (.lst ((splC 10 t).map EV.str)) ∧ h'[r2]? = some (.lst (D.map Dd.e)) ∧ D.length ≤ i ∧ readL (splC 10 t).dropLast 0 [] = readL ((splC 10 t).dropLast.drop i) i D) ?_ ?_ _ _ ⟨[], none, none, rfl, k2, e1, e2, Nat.le_refl _, rfl⟩
  · rintro env h' ⟨D, x3, x4, rfl, kk, er1, er2, dl, el⟩
    refine ⟨trivial, ?_⟩
    rw [show (splC 10 t).length - 1 = (splC 10 t).dropLast.length by rw [List.length_dropLast], List.drop_length, readL] at el
    have rt : readT t = if (splC 10 t).getLastD [] = [] then .inr D else .inl ((splC 10 t).length - 1) := by unfold readT; rw [el]
    unfold t__law_reading_2
    simp only [lRet, lIf, lSet, lRet, lRetN, lDrop, lOp, lVar, lC, lB, lT, lAnd, lOr, lNot, lIf, lAndV, lOrV, lNotV, lNil, lCons, lTup, lLst, lCB, lBM, lSl, lPart, lNext, lIt, lRng1, lRng2, lAsg, lPar, lSetI, lSetA, lAugS, lLc, lZip, lNeg, lCall, lChain, List.getElem?_cons_zero, List.getElem?_cons_succ, List.set_cons_zero, List.set_cons_succ, wipeE, intP, intE, lNeg]
    refine ia_l er1 (last_str ne) (eq_s ?_)
    by_cases c : (splC 10 t).getLastD [] = []
    · rw [if_pos c] at rt
      rw [decide_eq_true c]
      simp only [Bool.false_xor, truE, if_true]
      exact ⟨by simp [sizeL], q D rt r2 h' kk (by omega) er2⟩
    · rw [if_neg c] at rt
      rw [decide_eq_false c]
      simp only [Bool.false_xor, truE, Bool.false_eq_true, if_false, lenE, er1, List.length_map, subE, intP]
      rw [show (((splC 10 t).length : Nat) : Int) - 1 = (((splC 10 t).length - 1 : Nat) : Int) by omega]
      exact ⟨by simp [sizeL], qx _ rt _ kk⟩
  · rintro i env h' kk2 hi ⟨D, x3, x4, rfl, kk, er1, er2, dl, el⟩ hk
    refine ⟨trivial, bind_nm ?_⟩
    simp only [List.set_cons_zero, List.set_cons_succ]
    have hi2 : i < (splC 10 t).dropLast.length := by rw [List.length_dropLast]; omega
    have hi3 : i < (splC 10 t).length := by omega
    have gd : (splC 10 t).dropLast[i] = (splC 10 t)[i] := List.getElem_dropLast _
    have ed : (splC 10 t).dropLast.drop i = (splC 10 t)[i] :: (splC 10 t).dropLast.drop (i + 1) := by rw [← gd]; exact List.drop_eq_getElem_cons hi2
    have lm : (splC 10 t)[i] ∈ splC 10 t := List.getElem_mem hi3
    have la : atI ((splC 10 t).map EV.str) (i : Int) = some (.str (splC 10 t)[i]) := (atI_n _ _).trans (by rw [List.getElem?_map, List.getElem?_eq_getElem hi3]; rfl)
    rw [ed, readL_cons] at el
    generalize (splC 10 t)[i] = l at lm la el
    unfold t__law_reading_1b_0
    rw [lSeq, lSet]
    simp only [lSet, lRet, lRetN, lDrop, lOp, lVar, lC, lB, lT, lAnd, lOr, lNot, lIf, lAndV, lOrV, lNotV, lNil, lCons, lTup, lLst, lCB, lBM, lSl, lPart, lNext, lIt, lRng1, lRng2, lAsg, lPar, lSetI, lSetA, lAugS, lLc, lZip, lNeg, lCall, lChain, List.getElem?_cons_zero, List.getElem?_cons_succ, List.set_cons_zero, List.set_cons_succ, wipeE, intP, intE, lCall]
    refine ia_l er1 la ?_
    refine ⟨l, rfl, tx.line lm, fun h4 k4 => ?_⟩
    try simp only [List.set_cons_zero, List.set_cons_succ]
    unfold t__law_reading_1b_1
    try dsimp only
    rw [lSeq, lIfS]
    refine no_go (l := l) (D := D) (r2 := r2) rfl rfl (k4.at er2) (fun ed => ?_) (fun d g' ed k5 c => ?_) fun d g' ed k5 c => ?_
    · rw [ed] at el
      have rt : readT t = .inl i := by unfold readT; rw [el]
      simp only [if_true, lRet, lTup, lCons, lNil, lC, lVar, List.getElem?_cons_zero, List.getElem?_cons_succ]
      exact ⟨by simp [sizeL], qx _ rt _ (kk.trans k4)⟩
    · rw [ed] at el
      dsimp only at el
      rw [if_pos c] at el
      have rt : readT t = .inl i := by unfold readT; rw [el]
      simp only [if_true, lRet, lTup, lCons, lNil, lC, lVar, List.getElem?_cons_zero, List.getElem?_cons_succ]
      exact ⟨by simp [sizeL], qx _ rt _ (kk.trans (k4.trans k5))⟩
    · rw [ed] at el
      dsimp only at el
      rw [if_neg c] at el
      have k45 := k4.trans k5
      have er2' := k45.at er2
      simp only [Bool.false_eq_true, if_false]
      try refine next_go ?_
      unfold t__law_reading_1b_2
      rw [lDrop]
      simp only [lSet, lRet, lRetN, lDrop, lOp, lVar, lC, lB, lT, lAnd, lOr, lNot, lIf, lAndV, lOrV, lNotV, lNil, lCons, lTup, lLst, lCB, lBM, lSl, lPart, lNext, lIt, lRng1, lRng2, lAsg, lPar, lSetI, lSetA, lAugS, lLc, lZip, lNeg, lCall, lChain, List.getElem?_cons_zero, List.getElem?_cons_succ, List.set_cons_zero, List.set_cons_succ, wipeE, intP, intE]
      refine ⟨isTy_l er2', app_f er2' (by rw [List.length_map, sizeL]; omega) ?_⟩
      rw [ed]
      refine hk _ _ ⟨D ++ [d], some (.int i), some d.e, rfl, (kk.trans k45).fresh (by omega), set_off (k45.at er1) (by omega), by rw [set_at er2', List.map_append]; rfl, by simp; omega, el⟩
end Y

namespace Y
open PySem PySem.Spec PyProof.Rows L2

def mgD : Dd → Dd → Dd
  | .keep n, .keep m => .keep (n + m)
  | .drop n, .drop m => .drop (n + m)
  | .put a, .put b => .put (a ++ b)
  | d, _ => d
theorem mgD_ok {d e : Dd} (k : d.kind = e.kind) (hd : d.ok) : (mgD d e).units = d.units ++ e.units ∧ (mgD d e).kind = d.kind ∧ (mgD d e).ok := by
  cases d <;> cases e <;> simp [Dd.kind] at k <;> simp [mgD, Dd.units, Dd.kind, Dd.ok] at hd ⊢
  · omega
  · omega
  · exact fun h => absurd h hd
theorem proper_snoc : ∀ {D : Delta} {x y : Dd}, Proper (D ++ [x]) → y.kind = x.kind → y.ok → Proper (D ++ [y])
  | [], x, y, _, _, o => o
  | [d], x, y, h, k, o => ⟨h.1, by rw [k]; exact h.2.1, o⟩
  | d :: e :: D, x, y, h, k, o => ⟨h.1, h.2.1, proper_snoc (D := e :: D) h.2.2 k o⟩
theorem proper_snoc2 : ∀ {D : Delta} {x y : Dd}, Proper (D ++ [x]) → x.kind ≠ y.kind → y.ok → Proper (D ++ [x, y])
  | [], x, y, h, k, o => ⟨h, k, o⟩
  | [d], x, y, h, k, o => ⟨h.1, h.2.1, h.2.2, k, o⟩
  | d :: e :: D, x, y, h, k, o => ⟨h.1, h.2.1, proper_snoc2 (D := e :: D) h.2.2 k o⟩
theorem packed_one {us : List Un} {d : Dd} (ok : d.ok) (h : packed us = []) : packed (us ++ d.units) = [d] := by
  have : us = [] := by rw [← packed_units us, h]; rfl
  rw [this, List.nil_append]
  have := packed_id (D := [d]) ok
  rwa [show unitsD [d] = d.units by simp [unitsD]] at this
theorem packed_mg {us : List Un} {D : Delta} {x d : Dd} (ok : d.ok) (h : packed us = D ++ [x]) (k : x.kind = d.kind) : packed (us ++ d.units) = D ++ [mgD x d] := by
  have p := packed_proper us
  rw [h] at p
  have ox : x.ok := p.all x (by simp)
  have m := mgD_ok k ox
  have q := packed_id (proper_snoc p m.2.1 m.2.2)
  have e : unitsD (D ++ [mgD x d]) = us ++ d.units := by
    rw [← packed_units us, h, unitsD_app, unitsD_app, List.append_assoc]
    congr 1
    simp [unitsD, m.1]
  rwa [e] at q
theorem packed_new {us : List Un} {D : Delta} {x d : Dd} (ok : d.ok) (h : packed us = D ++ [x]) (k : x.kind ≠ d.kind) : packed (us ++ d.units) = D ++ [x, d] := by
  have p := packed_proper us
  rw [h] at p
  have q := packed_id (proper_snoc2 p k ok)
  have e : unitsD (D ++ [x, d]) = us ++ d.units := by
    rw [← packed_units us, h, unitsD_app, unitsD_app, List.append_assoc]
    congr 1
    simp [unitsD]
  rwa [e] at q
def lackP (n : Nat) : List Nat → Nat → Nat → Option Nat
  | [], i, a => if a < n then some i else none
  | c :: s, i, a => if n < (if c = 112 then a + 1 else a) then some i else lackP n s (i + 1) (if c = 112 then a + 1 else a)
def idxP : List Nat → Nat → List Nat
  | [], _ => []
  | c :: s, i => if c = 112 then i :: idxP s (i + 1) else idxP s (i + 1)
theorem lackP_eq {n : Nat} : ∀ {s : List Nat} {i a : Nat}, a + s.count 112 = n → lackP n s i a = none
  | [], i, a, h => by rw [lackP, if_neg]; simp at h; omega
  | c :: s, i, a, h => by
    rw [List.count_cons] at h
    rw [lackP]
    by_cases hc : c = 112
    · subst hc
      simp only [if_true, beq_self_eq_true] at h ⊢
      rw [if_neg (by omega)]
      exact lackP_eq (by omega)
    · simp only [hc, if_false, beq_iff_eq] at h ⊢
      rw [if_neg (by omega)]
      exact lackP_eq (by omega)
theorem lackP_gt {n : Nat} : ∀ {s : List Nat} {i a : Nat}, a + s.count 112 < n → lackP n s i a = some (i + s.length)
  | [], i, a, h => by rw [lackP, if_pos]; rfl; simpa using h
  | c :: s, i, a, h => by
    rw [List.count_cons] at h
    rw [lackP, List.length_cons]
    by_cases hc : c = 112
    · subst hc
      simp only [if_true, beq_self_eq_true] at h ⊢
      rw [if_neg (by omega), lackP_gt (by omega)]
      congr 1; omega
    · simp only [hc, if_false, beq_iff_eq] at h ⊢
      rw [if_neg (by omega), lackP_gt (by omega)]
      congr 1; omega
theorem lackP_lt {n : Nat} : ∀ {s : List Nat} {i a : Nat}, a ≤ n → n < a + s.count 112 → ∃ k, lackP n s i a = some k ∧ (idxP s i)[n - a]? = some k
  | [], i, a, h, h2 => by simp at h2; omega
  | c :: s, i, a, h, h2 => by
    rw [List.count_cons] at h2
    rw [lackP, idxP]
    by_cases hc : c = 112
    · subst hc
      simp only [if_true, beq_self_eq_true] at h2 ⊢
      by_cases h3 : n = a
      · subst h3
        rw [if_pos (by omega), Nat.sub_self]
        exact ⟨i, rfl, rfl⟩
      · rw [if_neg (by omega)]
        obtain ⟨k, e1, e2⟩ := lackP_lt (n := n) (s := s) (i := i + 1) (a := a + 1) (by omega) (by omega)
        refine ⟨k, e1, ?_⟩
        rw [show n - a = (n - (a + 1)) + 1 by omega, List.getElem?_cons_succ]
        exact e2
    · simp only [hc, if_false, beq_iff_eq] at h2 ⊢
      rw [if_neg (by omega)]
      exact lackP_lt h (by omega)
theorem idxP_mem : ∀ {s : List Nat} {i k : Nat}, k ∈ idxP s i → k < i + s.length
  | [], _, _, h => by cases h
  | c :: s, i, k, h => by
    rw [idxP] at h
    rw [List.length_cons]
    split at h
    · rcases List.mem_cons.mp h with rfl | h
      · omega
      · have := idxP_mem h; omega
    · have := idxP_mem h; omega
theorem idxP_eq : ∀ (s : List Nat) (a : Nat), ((List.range' a s.length).filterMap fun i => if s.getD (i - a) 0 = 112 then some (EV.int (i : Nat)) else none) = (idxP s a).map fun (i : Nat) => EV.int i
  | [], a => rfl
  | c :: s, a => by
    rw [List.length_cons, List.range'_succ, List.filterMap_cons, Nat.sub_self, idxP]
    have ih := idxP_eq s (a + 1)
    have e : ((List.range' (a + 1) s.length).filterMap fun i => if (c :: s).getD (i - a) 0 = 112 then some (EV.int (i : Nat)) else none) = (idxP s (a + 1)).map fun (i : Nat) => EV.int i := by
      rw [← ih]
      refine fmc fun i hi => ?_
      have := (List.mem_range'_1.mp hi).1
      rw [show i - a = (i - (a + 1)) + 1 by omega, List.getD_cons_succ]
    rw [e, List.getD_cons_zero]
    by_cases hc : c = 112
    · rw [if_pos hc, if_pos hc]; rfl
    · rw [if_neg hc, if_neg hc]
theorem count_chr (us : List Un) : (us.map Un.chr).count 112 = (putsU us).length := by
  induction us with
  | nil => rfl
  | cons u us ih => cases u <;> simp [putsU, Un.chr] at ih ⊢ <;> exact ih
structure SmU (us : List Un) : Prop where
  ln : us.length ≤ 100
  lt : LetU us
theorem SmU.lnD {D : Delta} (ok : AllOk D) (z : SmU (unitsD D)) : (∀ d ∈ D, LnD d) ∧ D.length ≤ 100 := by
  refine ⟨fun d hd => ?_, Nat.le_trans (lenUnits ok) z.ln⟩
  have m := mem_units hd
  have zl := z.ln
  have o := ok d hd
  cases d with
  | keep n =>
    have h1 : n ≤ 100 := by have := m.1; simp [Dd.units] at this; omega
    exact ⟨⟨o, fun x hx => by rw [List.mem_singleton.mp hx]; omega⟩, by simp [numsD]⟩
  | drop n =>
    have h1 : n ≤ 100 := by have := m.1; simp [Dd.units] at this; omega
    exact ⟨⟨o, fun x hx => by rw [List.mem_singleton.mp hx]; omega⟩, by simp [numsD]⟩
  | put xs =>
    have h1 : xs.length ≤ 100 := by have := m.1; simp [Dd.units] at this; omega
    exact ⟨⟨o, fun x hx => z.lt x (m.2 _ (by simp [Dd.units]; exact hx))⟩, h1⟩
def WrAt (ad : Ad) (h : EH) (w : Nat) (D : Delta) : Prop := ∃ r, w < r ∧ h[w]? = some (.slo ad.a_Writer [some (.ref r)]) ∧ h[r]? = some (.lst (D.map Dd.e))
theorem WrAt.keep {ad : Ad} {h h' : EH} {w : Nat} {D : Delta} (z : WrAt ad h w D) (k : Keep no1 h h') : WrAt ad h' w D := let ⟨r, l, a, b⟩ := z; ⟨r, l, k.at a, k.at b⟩
def lastD (D : Delta) : Delta := D.drop (D.length - 1)
def sp_joined_k97 (ad : Ad) : LSp := fun evs h Q => ∃ (r : Nat) (E : Delta), evs = [.ref r] ∧ h[r]? = some (.lst (E.map Dd.e)) ∧ AllOk E ∧ (unitsD E).length ≤ 9000 ∧ Told h ((packed (unitsD E)).map Dd.e) Q
def sp_need_letters__X (ad : Ad) : LSpX := fun evs h Q W => ∃ (s : List Nat) (R : List Int), evs = [.str s, tx R] ∧ s.length ≤ 900 ∧ R.length ≤ 900 ∧ (lackP R.length s 0 0 = none → ∀ h', Keep no1 h h' → Q .non h') ∧ ∀ k, lackP R.length s 0 0 = some k → ∀ h', Keep no1 h h' → W ad.a_NotAScript [("index", .int k)] h'
def sp_Writer___init__ (ad : Ad) : LSp := fun evs h Q => ∃ w, evs = [.ref w] ∧ h[w]? = some (.slo ad.a_Writer []) ∧ ∀ h', Keep (is1 w) h h' → WrAt ad h' w [] → Q .non h'
def SayQ (ad : Ad) (w : Nat) (L : Delta) (s : List Nat) (R : List Int) (h : EH) (Q : EK) (X : Nat → EH → Prop) : Prop :=
  (∃ k, lackP R.length s 0 0 = some k ∧ ∀ h', Keep no1 h h' → X k h') ∨
  ∃ us, s = us.map Un.chr ∧ R = putsU us ∧ SmU (unitsD L ++ us) ∧ ∀ h', Keep (is1 w) h h' → WrAt ad h' w (lastD (packed (unitsD L ++ us))) → Q (.str (linesS (packed (unitsD L ++ us)).dropLast)) h'
def sp_Writer_say__X (ad : Ad) : LSpX := fun evs h Q W => ∃ (w : Nat) (L : Delta) (s : List Nat) (R : List Int), evs = [.ref w, .str s, tx R] ∧ WrAt ad h w L ∧ AllOk L ∧ s.length ≤ 900 ∧ R.length ≤ 900 ∧ SayQ ad w L s R h Q fun k h' => W ad.a_NotAScript [("index", .int k)] h'
def sp_Writer_close (ad : Ad) : LSp := fun evs h Q => ∃ (w : Nat) (L : Delta), evs = [.ref w] ∧ WrAt ad h w L ∧ AllOk L ∧ SmU (unitsD L) ∧ ∀ h', Keep (is1 w) h h' → WrAt ad h' w [] → Q (.str (linesS L)) h'
abbrev wLines : List Nat := [108, 105, 110, 101, 115]
def sp__law_said (ad : Ad) : LSp := fun evs h Q => ∃ (w : Nat) (L : Delta) (s : List Nat) (R : List Int), evs = [.ref w, .str s, tx R] ∧ WrAt ad h w L ∧ AllOk L ∧ s.length ≤ 900 ∧ R.length ≤ 900 ∧ SayQ ad w L s R h (fun v h' => Q (.tup [.str wLines, v]) h') fun k h' => Q (.tup [.str wNaS, .int k]) h'
abbrev N_joined_k97 : List Str := ["deeds", "found", "word", "what"]
def t_joined_k97 (ad : Ad) : LS :=
    lSeq (lSet (lLst (lNil)) 1) <|
    lSeq (lFor (lIt (lVar 0)) (.tp [.nm 2, .nm 3])
      (lIfS (lAnd (lB (lOp (eqE true) (lVar 1) (lLst (lNil)))) (lB (lOp (eqE false) (lOp ixA (lOp ixA (lVar 1) (lNeg (lC (.int 1)))) (lC (.int 0))) (lVar 2))))
      (lSetA (lVar 1) (lNeg (lC (.int 1))) (lTup (lCons (lVar 2) (lCons (lOp addE (lOp ixA (lOp ixA (lVar 1) (lNeg (lC (.int 1)))) (lC (.int 1))) (lVar 3)) (lNil)))))
      (lDrop (lBM "list" appendE (lVar 1) (lCons (lTup (lCons (lVar 2) (lCons (lVar 3) (lNil)))) (lNil)))))) <|
    lRet (lVar 1)
abbrev N_need_letters__X : List Str := ["steps", "text", "many", "index", "step"]
def t_need_letters__X_2 (ad : Ad) (W : EW) : LS :=
    lIfS (lB (lOp ltE (lVar 2) (lCB lenE (lCons (lVar 1) (lNil)))))
      (lRaise W ad.a_NotAScript "index" (lCB lenE (lCons (lVar 0) (lNil))))
      (lNext)
def t_need_letters__X_1b_1 (ad : Ad) (W : EW) : LS :=
    lIfS (lB (lOp gtE (lVar 2) (lCB lenE (lCons (lVar 1) (lNil)))))
      (lRaise W ad.a_NotAScript "index" (lVar 3))
      (lNext)
def t_need_letters__X_1b_0 (ad : Ad) (W : EW) : LS :=
    lSeq (lAug (fun i j => i + j) 2 (lCB intOf (lCons (lOp (eqE false) (lVar 4) (lC (.str [112]))) (lNil)))) <| t_need_letters__X_1b_1 ad W
def t_need_letters__X_1 (ad : Ad) (W : EW) : LS :=
    lSeq (lFor (lEnum (lCons (lVar 0) (lNil))) (.tp [.nm 3, .nm 4])
      (t_need_letters__X_1b_0 ad W)) <| t_need_letters__X_2 ad W
def t_need_letters__X_0 (ad : Ad) (W : EW) : LS :=
    lSeq (lSet (lC (.int 0)) 2) <| t_need_letters__X_1 ad W
def t_need_letters__X (ad : Ad) (W : EW) : LS :=
    lSeq (lSet (lC (.int 0)) 2) <|
    lSeq (lFor (lEnum (lCons (lVar 0) (lNil))) (.tp [.nm 3, .nm 4])
      (lSeq (lAug (fun i j => i + j) 2 (lCB intOf (lCons (lOp (eqE false) (lVar 4) (lC (.str [112]))) (lNil)))) <|
    lIfS (lB (lOp gtE (lVar 2) (lCB lenE (lCons (lVar 1) (lNil)))))
      (lRaise W ad.a_NotAScript "index" (lVar 3))
      (lNext))) <|
    lIfS (lB (lOp ltE (lVar 2) (lCB lenE (lCons (lVar 1) (lNil)))))
      (lRaise W ad.a_NotAScript "index" (lCB lenE (lCons (lVar 0) (lNil))))
      (lNext)
abbrev N_Writer___init__ : List Str := ["self"]
def t_Writer___init__ (ad : Ad) : LS :=
    lSetAt [(ad.a_Writer, 0)] (lVar 0) (lLst (lNil))
abbrev N_Writer_say__X : List Str := ["self", "steps", "text", "deeds"]
def t_Writer_say__X_3 (ad : Ad) (W : EW) : LS :=
    lRet (lCall (sp_written ad) (lCons (lSl (lVar 3) (lPart none) (lPart (some (lNeg (lC (.int 1)))))) (lNil)))
def t_Writer_say__X_2 (ad : Ad) (W : EW) : LS :=
    lSeq (lSetAt [(ad.a_Writer, 0)] (lVar 0) (lSl (lVar 3) (lPart (some (lNeg (lC (.int 1))))) (lPart none))) <| t_Writer_say__X_3 ad W
def t_Writer_say__X_1 (ad : Ad) (W : EW) : LS :=
    lSeq (lSet (lCall (sp_joined_k97 ad) (lCons (lLst (lStar (lAttr [(ad.a_Writer, 0)] (lVar 0)) (lStar (lCall (sp_deeds_of ad) (lCons (lVar 1) (lCons (lVar 2) (lNil)))) (lNil)))) (lNil))) 3) <| t_Writer_say__X_2 ad W
def t_Writer_say__X_0 (ad : Ad) (W : EW) : LS :=
    lSeq (lDrop (lCallX (sp_need_letters__X ad) W (lCons (lVar 1) (lCons (lVar 2) (lNil))))) <| t_Writer_say__X_1 ad W
def t_Writer_say__X (ad : Ad) (W : EW) : LS :=
    lSeq (lDrop (lCallX (sp_need_letters__X ad) W (lCons (lVar 1) (lCons (lVar 2) (lNil))))) <|
    lSeq (lSet (lCall (sp_joined_k97 ad) (lCons (lLst (lStar (lAttr [(ad.a_Writer, 0)] (lVar 0)) (lStar (lCall (sp_deeds_of ad) (lCons (lVar 1) (lCons (lVar 2) (lNil)))) (lNil)))) (lNil))) 3) <|
    lSeq (lSetAt [(ad.a_Writer, 0)] (lVar 0) (lSl (lVar 3) (lPart (some (lNeg (lC (.int 1))))) (lPart none))) <|
    lRet (lCall (sp_written ad) (lCons (lSl (lVar 3) (lPart none) (lPart (some (lNeg (lC (.int 1)))))) (lNil)))
abbrev N_Writer_close : List Str := ["self", "found"]
def t_Writer_close (ad : Ad) : LS :=
    lSeq (lSet (lCall (sp_written ad) (lCons (lAttr [(ad.a_Writer, 0)] (lVar 0)) (lNil))) 1) <|
    lSeq (lSetAt [(ad.a_Writer, 0)] (lVar 0) (lLst (lNil))) <|
    lRet (lVar 1)
abbrev N__law_said : List Str := ["_law_writer", "_law_steps", "_law_text", "_law_found", "e"]
def t__law_said (ad : Ad) : LS :=
    lSeq (lTry (fun W =>
      lSet (lMetX (List.lookup · [(ad.a_Writer, (sp_Writer_say__X ad))]) W (lVar 0) (lCons (lVar 1) (lCons (lVar 2) (lNil)))) 3) [(ad.a_NotAScript, "index", .tup [78, 111, 116, 65, 83, 99, 114, 105, 112, 116], 4)]) <|
    lRet (lTup (lCons (lC (.str [108, 105, 110, 101, 115])) (lCons (lVar 3) (lNil))))
theorem len_joined_k97 (ad : Ad) (evs : List EV) (h : EH) (Q : EK) (q : sp_joined_k97 ad evs h Q) : evs.length = ["deeds"].length := by
  obtain ⟨_, _, rfl, _⟩ := q; rfl
theorem len_need_letters__X (ad : Ad) (evs : List EV) (h : EH) (Q : EK) (W : ED) (q : sp_need_letters__X ad evs h Q W) : evs.length = ["steps", "text"].length := by
  obtain ⟨_, _, rfl, _⟩ := q; rfl
theorem len_Writer___init__ (ad : Ad) (evs : List EV) (h : EH) (Q : EK) (q : sp_Writer___init__ ad evs h Q) : evs.length = ["self"].length := by
  obtain ⟨_, rfl, _⟩ := q; rfl
theorem len_Writer_say__X (ad : Ad) (evs : List EV) (h : EH) (Q : EK) (W : ED) (q : sp_Writer_say__X ad evs h Q W) : evs.length = ["self", "steps", "text"].length := by
  obtain ⟨_, _, _, _, rfl, _⟩ := q; rfl
theorem len_Writer_close (ad : Ad) (evs : List EV) (h : EH) (Q : EK) (q : sp_Writer_close ad evs h Q) : evs.length = ["self"].length := by
  obtain ⟨_, _, rfl, _⟩ := q; rfl
theorem len__law_said (ad : Ad) (evs : List EV) (h : EH) (Q : EK) (q : sp__law_said ad evs h Q) : evs.length = ["_law_writer", "_law_steps", "_law_text"].length := by
  obtain ⟨_, _, _, _, rfl, _⟩ := q; rfl
theorem mg_what {x d : Dd} (k : x.kind = d.kind) (h1 : x.units.length + d.units.length ≤ 9000) {P : EK} {g : EH} (p : P (mgD x d).what g) : addE x.what d.what g P := by
  have sz : sizeLine = 16777216 := sizeL
  cases x <;> cases d <;> simp [Dd.kind] at k
  · simp only [Dd.what, addE]
    rw [show ∀ a b : Nat, ((a : Nat) : Int) + (b : Nat) = ((a + b : Nat) : Int) from fun a b => by omega]
    exact p
  · simp only [Dd.what, addE]
    rw [show ∀ a b : Nat, ((a : Nat) : Int) + (b : Nat) = ((a + b : Nat) : Int) from fun a b => by omega]
    exact p
  · simp only [Dd.units, List.length_map] at h1
    simp only [addE, Dd.what, tx, List.length_map]
    refine ⟨by omega, ?_⟩
    simpa [mgD, Dd.what, tx] using p
theorem mg_word {x d : Dd} (k : x.kind = d.kind) : (mgD x d).word = d.word := by
  cases x <;> cases d <;> simp [Dd.kind] at k <;> rfl
theorem pure_joined_k97 (ad : Ad) (evs : List EV) (h : EH) (Q : EK) (q : sp_joined_k97 ad evs h Q) : t_joined_k97 ad (endsOf Q) (startE N_joined_k97 evs) h := by
  obtain ⟨r, E, rfl, e, aok, hl, q⟩ := q
  show t_joined_k97 ad (endsOf Q) [some (.ref r), none, none, none] h
  unfold t_joined_k97
  rw [lSeq, lSet]
  simp only [lSet, lRet, lRetN, lDrop, lOp, lVar, lC, lB, lT, lAnd, lOr, lNot, lIf, lAndV, lOrV, lNotV, lNil, lCons, lTup, lLst, lCB, lBM, lSl, lPart, lNext, lIt, lRng1, lRng2, lAsg, lPar, lSetI, lSetA, lAugS, lLc, lZip, lNeg, lCall, lChain, List.getElem?_cons_zero, List.getElem?_cons_succ, List.set_cons_zero, List.set_cons_succ, wipeE, intP, intE, List.length_nil]
  refine ⟨by simp [sizeL], ?_⟩
  try dsimp only
  rw [lSeq, lFor]
  simp only [lSet, lRet, lRetN, lDrop, lOp, lVar, lC, lB, lT, lAnd, lOr, lNot, lIf, lAndV, lOrV, lNotV, lNil, lCons, lTup, lLst, lCB, lBM, lSl, lPart, lNext, lIt, lRng1, lRng2, lAsg, lPar, lSetI, lSetA, lAugS, lLc, lZip, lNeg, lCall, lChain, List.getElem?_cons_zero, List.getElem?_cons_succ, List.set_cons_zero, List.set_cons_succ, wipeE, intP, intE, srcE, app_at e]
  have sz : sizeLine = 16777216 := sizeL
  refine loop_on Dd.e E (fun a b env h' => ∃ (x3 x4 : Option EV), env = [some (.ref r), some (.ref h.length), x3, x4] ∧ Keep no1 h h' ∧ h'[h.length]? = some (.lst ((packed (unitsD a)).map Dd.e))) ?_ ?_ _ _ ⟨_, _, rfl, Keep.app _, new_at⟩
  · rintro env h' ⟨x3, x4, rfl, k, ef⟩
    refine ⟨k.at e, ?_⟩
    simp only [lSet, lRet, lRetN, lDrop, lOp, lVar, lC, lB, lT, lAnd, lOr, lNot, lIf, lAndV, lOrV, lNotV, lNil, lCons, lTup, lLst, lCB, lBM, lSl, lPart, lNext, lIt, lRng1, lRng2, lAsg, lPar, lSetI, lSetA, lAugS, lLc, lZip, lNeg, lCall, lChain, List.getElem?_cons_zero, List.getElem?_cons_succ, List.set_cons_zero, List.set_cons_succ, wipeE, intP, intE]
    exact q _ _ k (Nat.le_refl _) ef
  · rintro a d b env h' kk eD ⟨x3, x4, rfl, k, ef⟩ hk
    refine ⟨k.at e, ?_⟩
    have od : d.ok := aok d (by rw [eD]; simp)
    have ul : (unitsD a).length + d.units.length ≤ 9000 := by
      rw [eD, unitsD_app, unitsD_cons, List.length_append, List.length_append] at hl
      omega
    have ua : unitsD (a ++ [d]) = unitsD a ++ d.units := by rw [unitsD_app]; simp [unitsD]
    rw [Dd.e_eq]
    simp only [lBind, Pat.bind, Pat.binds, List.set_cons_zero, List.set_cons_succ]
    have hpl := packed_len (unitsD a)
    rw [lIfS]
    simp only [lSet, lRet, lRetN, lDrop, lOp, lVar, lC, lB, lT, lAnd, lOr, lNot, lIf, lAndV, lOrV, lNotV, lNil, lCons, lTup, lLst, lCB, lBM, lSl, lPart, lNext, lIt, lRng1, lRng2, lAsg, lPar, lSetI, lSetA, lAugS, lLc, lZip, lNeg, lCall, lChain, List.getElem?_cons_zero, List.getElem?_cons_succ, List.set_cons_zero, List.set_cons_succ, wipeE, intP, intE, List.length_nil]
    refine ⟨by simp [sizeL], ?_⟩
    refine eqE_nilD (app_at ef _) new_at ?_
    have k1 : Keep no1 h (h' ++ [EO.lst []]) := k.trans (Keep.app _)
    have ef1 := app_at ef [EO.lst []]
    have fin : ∀ (x : EO), x = .lst ((packed (unitsD (a ++ [d]))).map Dd.e) → kk [some (.ref r), some (.ref h.length), some (.str d.word), some d.what] ((h' ++ [EO.lst []]).set h.length x) := by
      rintro x rfl
      exact hk _ _ ⟨_, _, rfl, k1.fresh (Nat.le_refl _), set_at ef1⟩
    have put1 : ∀ (D : Delta), packed (unitsD a ++ d.units) = D ++ [d] → D = packed (unitsD a) → (isTy "list" (.ref h.length) (h' ++ [EO.lst []]) ∧ [EV.str d.word, d.what].length ≤ sizeLine ∧ appendE (.ref h.length) [.tup [.str d.word, d.what]] (h' ++ [EO.lst []]) fun _ h1 => kk [some (.ref r), some (.ref h.length), some (.str d.word), some d.what] h1) := by
      rintro D eP rfl
      refine ⟨isTy_l ef1, by simp [sizeL], app_f ef1 (by rw [List.length_map]; omega) ?_⟩
      refine fin _ ?_
      rw [ua, eP, List.map_append, List.map_cons, List.map_nil, ← Dd.e_eq]
    rcases List.eq_nil_or_concat (packed (unitsD a)) with en | ⟨D, x, en⟩
    · rw [en]
      simp only [decide_true, Bool.xor_self, Bool.false_eq_true, if_false]
      exact put1 [] (packed_one od en) en.symm
    · rw [List.concat_eq_append] at en
      have ne : packed (unitsD a) ≠ [] := by rw [en]; simp
      simp only [ne, decide_false, Bool.xor_false, if_true]
      have ef2 := ef1
      rw [en, List.map_append, List.map_cons, List.map_nil] at ef2
      have atl : ∀ P : EK, P x.e (h' ++ [EO.lst []]) → ixA (.ref h.length) (.int (-1)) (h' ++ [EO.lst []]) P := fun P p => ia_l ef2 (atm1 _ _) p
      refine atl _ ?_
      rw [Dd.e_eq]
      refine ia_t (x := .str x.word) rfl (eq_s ?_)
      rw [word_kind]
      by_cases g : x.kind = d.kind
      · rw [decide_eq_true g]
        simp only [Bool.false_xor, if_true]
        have hdl : x.units.length ≤ (unitsD a).length := by
          have := (mem_units (show x ∈ packed (unitsD a) by rw [en]; simp)).1
          rwa [packed_units] at this
        refine atl _ ?_
        rw [Dd.e_eq]
        refine ia_t (x := x.what) rfl (mg_what g (by omega) ?_)
        refine ⟨by simp [sizeL], ?_⟩
        have ez : EV.tup [.str d.word, (mgD x d).what] = (mgD x d).e := by rw [← mg_word g, ← Dd.e_eq]
        rw [ez]
        refine set_last (D := D) (d := x) (by rw [ef1, en]) ?_
        refine fin _ ?_
        rw [ua, packed_mg od en g]
      · rw [decide_eq_false g]
        simp only [Bool.false_xor, Bool.false_eq_true, if_false]
        refine put1 (D ++ [x]) ?_ en.symm
        rw [packed_new od en g]
        simp
theorem pure_need_letters__X (ad : Ad) (evs : List EV) (h0 : EH) (Q : EK) (W : ED) (q : sp_need_letters__X ad evs h0 Q W) (mk : EO) (hmk : isF mk = true) :
    t_need_letters__X ad (fun C fs _ h' => h'[h0.length]? = some mk ∧ W C fs h') (endsOf Q) (startE N_need_letters__X evs) (h0 ++ [mk]) := by
  obtain ⟨s, R, rfl, sl, rl, q, qx⟩ := q
  have k0 : Keep no1 h0 (h0 ++ [mk]) := Keep.app _
  have em : (h0 ++ [mk])[h0.length]? = some mk := new_at
  clear hmk
  generalize h0 ++ [mk] = h at *
  have sz : sizeLine = 16777216 := sizeL
  show t_need_letters__X_0 ad _ (endsOf Q) [some (.str s), some (tx R), none, none, none] h
  unfold t_need_letters__X_0
  rw [lSeq, lSet]
  simp only [lSet, lRet, lRetN, lDrop, lOp, lVar, lC, lB, lT, lAnd, lOr, lNot, lIf, lAndV, lOrV, lNotV, lNil, lCons, lTup, lLst, lCB, lBM, lSl, lPart, lNext, lIt, lRng1, lRng2, lAsg, lPar, lSetI, lSetA, lAugS, lLc, lZip, lNeg, lCall, lChain, List.getElem?_cons_zero, List.getElem?_cons_succ, List.set_cons_zero, List.set_cons_succ, wipeE, intP, intE]
  try simp only [List.set_cons_zero, List.set_cons_succ]
  unfold t_need_letters__X_1
  try dsimp only
  rw [lSeq, lFor]
  simp only [lSet, lRet, lRetN, lDrop, lOp, lVar, lC, lB, lT, lAnd, lOr, lNot, lIf, lAndV, lOrV, lNotV, lNil, lCons, lTup, lLst, lCB, lBM, lSl, lPart, lNext, lIt, lRng1, lRng2, lAsg, lPar, lSetI, lSetA, lAugS, lLc, lZip, lNeg, lCall, lChain, List.getElem?_cons_zero, List.getElem?_cons_succ, List.set_cons_zero, List.set_cons_succ, wipeE, intP, intE, lEnum, srcE, notTupE]
  refine ⟨trivial, ?_⟩
  refine loop_num (fun c => EV.str [c]) s (fun a b env h' => ∃ (m : Nat) (x4 x5 : Option EV), env = [some (.str s), some (tx R), some (.int m), x4, x5] ∧ h' = h ∧ m ≤ R.length ∧ lackP R.length s 0 0 = lackP R.length b a.length m) ?_ ?_ _ _ ⟨0, none, none, rfl, rfl, Nat.zero_le _, rfl⟩
  · rintro env h' ⟨m, x4, x5, rfl, rfl, ml, el⟩
    refine ⟨trivial, ?_⟩
    rw [lackP] at el
    unfold t_need_letters__X_2
    try dsimp only
    rw [lIfS]
    simp only [lSet, lRet, lRetN, lDrop, lOp, lVar, lC, lB, lT, lAnd, lOr, lNot, lIf, lAndV, lOrV, lNotV, lNil, lCons, lTup, lLst, lCB, lBM, lSl, lPart, lNext, lIt, lRng1, lRng2, lAsg, lPar, lSetI, lSetA, lAugS, lLc, lZip, lNeg, lCall, lChain, List.getElem?_cons_zero, List.getElem?_cons_succ, List.set_cons_zero, List.set_cons_succ, wipeE, intP, intE, lenE, tx, List.length_map, lRaise, ltE, intE, intP]
    by_cases c : (m : Int) < R.length
    · simp only [c, decide_true, if_true]
      rw [if_pos (by omega)] at el
      exact ⟨by rw [sizeL]; omega, em, qx _ el _ k0⟩
    · simp only [c, decide_false, Bool.false_eq_true, if_false]
      rw [if_neg (by omega)] at el
      exact q el _ k0
  · rintro a c b env h' kk es ⟨m, x4, x5, rfl, rfl, ml, el⟩ hk
    refine ⟨trivial, ?_⟩
    simp only [lBind, Pat.bind, Pat.binds, List.set_cons_zero, List.set_cons_succ]
    rw [lackP] at el
    unfold t_need_letters__X_1b_0
    rw [lSeq, lAug]
    simp only [lSet, lRet, lRetN, lDrop, lOp, lVar, lC, lB, lT, lAnd, lOr, lNot, lIf, lAndV, lOrV, lNotV, lNil, lCons, lTup, lLst, lCB, lBM, lSl, lPart, lNext, lIt, lRng1, lRng2, lAsg, lPar, lSetI, lSetA, lAugS, lLc, lZip, lNeg, lCall, lChain, List.getElem?_cons_zero, List.getElem?_cons_succ, List.set_cons_zero, List.set_cons_succ, wipeE, intP, intE]
    refine eq_s (int_b ?_)
    simp only [intE, intP]
    rw [show (m : Int) + (if (false ^^ decide ([c] = [112])) = true then 1 else 0) = ((if c = 112 then m + 1 else m : Nat) : Int) by
      by_cases hc : c = 112
      · subst hc; simp
      · simp [hc]]
    generalize (if c = 112 then m + 1 else m) = m2 at el ⊢
    try simp only [List.set_cons_zero, List.set_cons_succ]
    unfold t_need_letters__X_1b_1
    rw [lIfS]
    simp only [lSet, lRet, lRetN, lDrop, lOp, lVar, lC, lB, lT, lAnd, lOr, lNot, lIf, lAndV, lOrV, lNotV, lNil, lCons, lTup, lLst, lCB, lBM, lSl, lPart, lNext, lIt, lRng1, lRng2, lAsg, lPar, lSetI, lSetA, lAugS, lLc, lZip, lNeg, lCall, lChain, List.getElem?_cons_zero, List.getElem?_cons_succ, List.set_cons_zero, List.set_cons_succ, wipeE, intP, intE, lenE, tx, List.length_map, lRaise, gtE, intE, intP]
    by_cases c2 : (R.length : Int) < m2
    · simp only [c2, decide_true, if_true]
      rw [if_pos (by omega)] at el
      exact ⟨em, qx _ el _ k0⟩
    · simp only [c2, decide_false, Bool.false_eq_true, if_false]
      rw [if_neg (by omega)] at el
      try refine next_go ?_
      refine hk _ _ ⟨m2, _, _, rfl, rfl, by omega, ?_⟩
      rw [el, List.length_append]; rfl
theorem pure_Writer___init__ (ad : Ad) (evs : List EV) (h : EH) (Q : EK) (q : sp_Writer___init__ ad evs h Q) : t_Writer___init__ ad (endsOf Q) (startE N_Writer___init__ evs) h := by
  obtain ⟨w, rfl, e, q⟩ := q
  show t_Writer___init__ ad (endsOf Q) [some (.ref w)] h
  have e1 := app_at e [EO.lst []]
  have hp := lt_of_at e
  have hp' := hp
  simp only [t_Writer___init__, lSeq, lSet, lRet, lRetN, lDrop, lIfS, lOp, lVar, lC, lB, lT, lAnd, lOr, lNot, lIf, lAndV, lOrV, lNotV, lNil, lCons, lTup, lLst, lCB, lBM, lSl, lPart, lNext, lFor, lIt, lRng1, lRng2, lAsg, lPar, lSetI, lSetA, lAugS, lLc, lZip, lNeg, lCall, lChain, List.getElem?_cons_zero, List.getElem?_cons_succ, List.set_cons_zero, List.set_cons_succ, truE, wipeE, intP, intE, lSetAt, e1, List.lookup_cons, beq_self_eq_true]
  refine ⟨by simp [sizeL], ?_⟩
  exact q _ ((Keep.app _).trans (Keep.set (show is1 w w from rfl))) ⟨h.length, hp', by rw [set_at e1]; rfl, set_off (new_at (h := h) (o := EO.lst [])) (by omega)⟩
theorem pure_Writer_close (ad : Ad) (evs : List EV) (h : EH) (Q : EK) (q : sp_Writer_close ad evs h Q) : t_Writer_close ad (endsOf Q) (startE N_Writer_close evs) h := by
  obtain ⟨w, L, rfl, ⟨r, _, e1, e2⟩, ok, sm, q⟩ := q
  show t_Writer_close ad (endsOf Q) [some (.ref w), none] h
  have ld := sm.lnD ok
  unfold t_Writer_close
  rw [lSeq, lSet]
  simp only [lSet, lRet, lRetN, lDrop, lOp, lVar, lC, lB, lT, lAnd, lOr, lNot, lIf, lAndV, lOrV, lNotV, lNil, lCons, lTup, lLst, lCB, lBM, lSl, lPart, lNext, lIt, lRng1, lRng2, lAsg, lPar, lSetI, lSetA, lAugS, lLc, lZip, lNeg, lCall, lChain, List.getElem?_cons_zero, List.getElem?_cons_succ, List.set_cons_zero, List.set_cons_succ, wipeE, intP, intE, lCall, lAttr, attrE, e1, List.lookup_cons, beq_self_eq_true, List.getElem?_cons_zero]
  refine ⟨r, L, rfl, e2, ld.1, by omega, fun h1 k1 => ?_⟩
  have e3 := app_at (k1.at e1) [EO.lst []]
  have hp := lt_of_at (k1.at e1)
  try simp only [List.set_cons_zero, List.set_cons_succ]
  rw [lSeq, lSetAt]
  simp only [lSet, lRet, lRetN, lDrop, lOp, lVar, lC, lB, lT, lAnd, lOr, lNot, lIf, lAndV, lOrV, lNotV, lNil, lCons, lTup, lLst, lCB, lBM, lSl, lPart, lNext, lIt, lRng1, lRng2, lAsg, lPar, lSetI, lSetA, lAugS, lLc, lZip, lNeg, lCall, lChain, List.getElem?_cons_zero, List.getElem?_cons_succ, List.set_cons_zero, List.set_cons_succ, wipeE, intP, intE, e3, List.lookup_cons, beq_self_eq_true]
  refine ⟨by simp [sizeL], ?_⟩
  try simp only [lRet, lVar, List.getElem?_cons_zero, List.getElem?_cons_succ]
  exact q _ (k1.all.trans ((Keep.app _).trans (Keep.set (show is1 w w from rfl)))) ⟨h1.length, hp, by rw [set_at e3]; rfl, set_off (new_at (h := h1) (o := EO.lst [])) (by omega)⟩
theorem allOk_ones (us : List Un) : AllOk (us.map one) := fun d hd => by
  obtain ⟨u, _, rfl⟩ := List.mem_map.mp hd
  exact one_ok u
theorem units_ones (us : List Un) : unitsD (us.map one) = us := by
  induction us with
  | nil => rfl
  | cons u us ih => rw [List.map_cons, unitsD_cons, ih, one_units]; rfl
theorem AllOk.app {D E : Delta} (a : AllOk D) (b : AllOk E) : AllOk (D ++ E) := fun d hd => by
  rcases List.mem_append.mp hd with h | h
  · exact a d h
  · exact b d h
theorem SmU.sub {us vs : List Un} (z : SmU us) (s : ∀ u ∈ vs, u ∈ us) (l : vs.length ≤ us.length) : SmU vs := ⟨Nat.le_trans l z.ln, fun x hx => z.lt x (s _ hx)⟩
theorem cut_last {α : Type} (xs : List α) : cut xs (some (-1)) none = xs.drop (xs.length - 1) := by
  have e : HT.sIx xs.length 0 (some (-1)) = xs.length - 1 := by
    unfold HT.sIx
    dsimp only
    rw [if_pos (by decide)]
    omega
  unfold cut
  rw [e, List.take_of_length_le]
  simp [HT.sIx]
theorem cut_initD {α : Type} (xs : List α) : cut xs none (some (-1)) = xs.dropLast := by
  by_cases h : xs = []
  · subst h; rfl
  · exact cut_init xs h
theorem pure_Writer_say__X (ad : Ad) (evs : List EV) (h0 : EH) (Q : EK) (W : ED) (q : sp_Writer_say__X ad evs h0 Q W) (mk : EO) (hmk : isF mk = true) :
    t_Writer_say__X ad (fun C fs _ h' => h'[h0.length]? = some mk ∧ W C fs h') (endsOf Q) (startE N_Writer_say__X evs) (h0 ++ [mk]) := by
  obtain ⟨w, L, s, R, rfl, wr, ok, sl, rl, q⟩ := q
  have k0 : Keep no1 h0 (h0 ++ [mk]) := Keep.app _
  have em : (h0 ++ [mk])[h0.length]? = some mk := new_at
  have hw : w < h0.length := let ⟨_, _, e, _⟩ := wr; lt_of_at e
  clear hmk
  generalize h0 ++ [mk] = h at *
  have sz : sizeLine = 16777216 := sizeL
  show t_Writer_say__X_0 ad _ (endsOf Q) [some (.ref w), some (.str s), some (tx R), none] h
  unfold t_Writer_say__X_0
  rw [lSeq, lDrop]
  simp only [lSet, lRet, lRetN, lDrop, lOp, lVar, lC, lB, lT, lAnd, lOr, lNot, lIf, lAndV, lOrV, lNotV, lNil, lCons, lTup, lLst, lCB, lBM, lSl, lPart, lNext, lIt, lRng1, lRng2, lAsg, lPar, lSetI, lSetA, lAugS, lLc, lZip, lNeg, lCall, lChain, List.getElem?_cons_zero, List.getElem?_cons_succ, List.set_cons_zero, List.set_cons_succ, wipeE, intP, intE, lCallX]
  refine ⟨s, R, rfl, sl, rl, fun en h1 k1 => ?_, fun k ek h1 k1 => ?_⟩
  · rcases q with ⟨k, ek, _⟩ | ⟨us, rfl, rfl, sm, q⟩
    · rw [en] at ek; cases ek
    obtain ⟨r, lwr, e1, e2⟩ := wr.keep (k0.trans k1)
    have ul : us.length ≤ 100 := by have := sm.ln; rw [List.length_append] at this; omega
    have Ll : L.length ≤ 100 := by have := sm.ln; rw [List.length_append] at this; have := lenUnits ok; omega
    unfold t_Writer_say__X_1
    try dsimp only
    rw [lSeq, lSet]
    simp only [lSet, lRet, lRetN, lDrop, lOp, lVar, lC, lB, lT, lAnd, lOr, lNot, lIf, lAndV, lOrV, lNotV, lNil, lCons, lTup, lLst, lCB, lBM, lSl, lPart, lNext, lIt, lRng1, lRng2, lAsg, lPar, lSetI, lSetA, lAugS, lLc, lZip, lNeg, lCall, lChain, List.getElem?_cons_zero, List.getElem?_cons_succ, List.set_cons_zero, List.set_cons_succ, wipeE, intP, intE, lCall, lStar, lAttr, attrE, e1, List.lookup_cons, beq_self_eq_true, List.getElem?_cons_zero, srcE, e2]
    try simp only [itemsE, e2]
    refine ⟨us, rfl, by omega, fun r2 h2 k2 l2 e3 => ?_⟩
    simp only [e3, List.append_nil]
    have eo : (L.map Dd.e ++ us.map oneE) = (L ++ us.map one).map Dd.e := by rw [List.map_append, List.map_map]; rfl
    rw [eo]
    refine ⟨by rw [List.length_map, List.length_append, List.length_map]; omega, ?_⟩
    have eu : unitsD (L ++ us.map one) = unitsD L ++ us := by rw [unitsD_app, units_ones]
    refine ⟨_, L ++ us.map one, rfl, new_at, ok.app (allOk_ones us), by rw [eu]; have := sm.ln; omega, fun r3 h3 k3 l3 e4 => ?_⟩
    rw [eu] at e4
    have kk : Keep no1 h1 h3 := (k2.trans (Keep.app _)).trans k3
    have e1' := kk.at e1
    have pl := packed_len (unitsD L ++ us)
    have pr := packed_proper (unitsD L ++ us)
    have pu := packed_units (unitsD L ++ us)
    have sn := sm.ln
    generalize packed (unitsD L ++ us) = D at *
    try simp only [List.set_cons_zero, List.set_cons_succ]
    unfold t_Writer_say__X_2
    try dsimp only
    rw [lSeq, lSetAt]
    simp only [lSet, lRet, lRetN, lDrop, lOp, lVar, lC, lB, lT, lAnd, lOr, lNot, lIf, lAndV, lOrV, lNotV, lNil, lCons, lTup, lLst, lCB, lBM, lSl, lPart, lNext, lIt, lRng1, lRng2, lAsg, lPar, lSetI, lSetA, lAugS, lLc, lZip, lNeg, lCall, lChain, List.getElem?_cons_zero, List.getElem?_cons_succ, List.set_cons_zero, List.set_cons_succ, wipeE, intP, intE, lNeg]
    refine sl_l e4 ?_
    rw [cut_last, List.length_map, ← List.map_drop]
    have e5 := app_at e1' [EO.lst ((D.drop (D.length - 1)).map Dd.e)]
    simp only [e5, List.lookup_cons, beq_self_eq_true]
    have e6 : (h3 ++ [EO.lst ((D.drop (D.length - 1)).map Dd.e)])[h3.length]? = some (.lst ((lastD D).map Dd.e)) := new_at
    have e7 := app_at e4 [EO.lst ((D.drop (D.length - 1)).map Dd.e)]
    have k7 : Keep (is1 w) h0 (h3 ++ [EO.lst ((D.drop (D.length - 1)).map Dd.e)]) := ((k0.trans k1).trans (kk.trans (Keep.app _))).all
    have hw3 := lt_of_at e1'
    generalize h3 ++ [EO.lst ((D.drop (D.length - 1)).map Dd.e)] = h4 at e5 e6 e7 k7 ⊢
    generalize h3.length = r4 at e6 hw3 ⊢
    have r3w : r3 ≠ w := by
      rintro rfl
      rw [e1'] at e4; cases e4
    have e8 := set_at (o := EO.slo ad.a_Writer (putO 0 (.ref r4) [some (.ref r)])) e5
    have e9 := set_off (o := EO.slo ad.a_Writer (putO 0 (.ref r4) [some (.ref r)])) e6 (by omega : r4 ≠ w)
    have e10 := set_off (o := EO.slo ad.a_Writer (putO 0 (.ref r4) [some (.ref r)])) e7 r3w
    have k8 : Keep (is1 w) h0 (h4.set w (EO.slo ad.a_Writer (putO 0 (.ref r4) [some (.ref r)]))) := k7.trans (Keep.set (show is1 w w from rfl))
    generalize h4.set w (EO.slo ad.a_Writer (putO 0 (.ref r4) [some (.ref r)])) = h5 at e8 e9 e10 k8 ⊢
    unfold t_Writer_say__X_3
    simp only [lRet, lSet, lRet, lRetN, lDrop, lOp, lVar, lC, lB, lT, lAnd, lOr, lNot, lIf, lAndV, lOrV, lNotV, lNil, lCons, lTup, lLst, lCB, lBM, lSl, lPart, lNext, lIt, lRng1, lRng2, lAsg, lPar, lSetI, lSetA, lAugS, lLc, lZip, lNeg, lCall, lChain, List.getElem?_cons_zero, List.getElem?_cons_succ, List.set_cons_zero, List.set_cons_succ, wipeE, intP, intE, lCall, lNeg]
    refine sl_l e10 ?_
    rw [cut_initD, ← List.map_dropLast]
    have ad' : AllOk D.dropLast := fun d hd => pr.all d ((List.dropLast_sublist D).mem hd)
    have su : SmU (unitsD D.dropLast) := by
      have hs : List.Sublist (unitsD D.dropLast) (unitsD D) := by
        have := unitsD_app (D.take (D.length - 1)) (D.drop (D.length - 1))
        rw [List.take_append_drop, ← List.dropLast_eq_take] at this
        rw [this]
        exact List.sublist_append_left _ _
      rw [pu] at hs
      exact sm.sub (fun u hu => hs.mem hu) hs.length_le
    have ld := su.lnD ad'
    refine ⟨_, D.dropLast, rfl, new_at, ld.1, by omega, fun h6 k6 => ?_⟩
    have k9 : Keep no1 h5 h6 := (Keep.app _).trans k6
    exact q h6 (k8.trans k9.all) ⟨r4, hw3, k9.at e8, k9.at e9⟩
  · rcases q with ⟨k2, ek2, q⟩ | ⟨us, rfl, rfl, sm, q⟩
    · obtain rfl : k2 = k := by rw [ek] at ek2; exact (Option.some.inj ek2).symm
      exact ⟨k1.at em, q _ (k0.trans k1)⟩
    · rw [lackP_eq (by rw [count_chr, Nat.zero_add])] at ek
      cases ek
theorem pure__law_said (ad : Ad) (evs : List EV) (h : EH) (Q : EK) (q : sp__law_said ad evs h Q) : t__law_said ad (endsOf Q) (startE N__law_said evs) h := by
  obtain ⟨w, L, s, R, rfl, wr, ok, sl, rl, q⟩ := q
  show t__law_said ad (endsOf Q) [some (.ref w), some (.str s), some (tx R), none, none] h
  unfold t__law_said
  rw [lSeq, lTry]
  intro mk hmk
  have k0 : Keep no1 h (h ++ [mk]) := Keep.app _
  have hw : w < h.length := let ⟨_, _, e, _⟩ := wr; lt_of_at e
  obtain ⟨r, lwr, e1, e2⟩ := wr.keep k0
  simp only [lSet, lMetX, lVar, List.getElem?_cons_zero, List.getElem?_cons_succ, metKX, e1, List.lookup_cons, beq_self_eq_true, lCons, lNil]
  refine ⟨w, L, s, R, rfl, ⟨r, lwr, e1, e2⟩, ok, sl, rl, ?_⟩
  rcases q with ⟨k, ek, q⟩ | ⟨us, rfl, rfl, sm, q⟩
  · refine .inl ⟨k, ek, fun h2 k2 => ?_⟩
    exact ⟨k2.at new_at, .inl ⟨rfl, _, rfl, q _ (k0.trans k2)⟩⟩
  · refine .inr ⟨us, rfl, rfl, sm, fun h2 k2 w2 => ?_⟩
    simp only [lRet, lTup, lCons, lNil, lC, lVar, List.set_cons_zero, List.set_cons_succ, List.getElem?_cons_zero, List.getElem?_cons_succ]
    exact ⟨by simp [sizeL], q h2 (k0.all.trans k2) w2⟩
end Y

namespace Y
open PySem PySem.Spec PyProof.Rows L2

inductive Lt where
  | non | bl (b : Bool) | int (i : Int) | neg (i : Int) | p9 | p91 | str (s : List Nat) | dic
  | tup (xs : List Lt) | lst (xs : List Lt)
mutual
/-- the reading of a display -/
def Lt.code : Lt → LT
  | .non => lC .non
  | .bl b => lC (.bl b)
  | .int i => lC (.int i)
  | .neg i => lNeg (lC (.int i))
  | .p9 => lOp powE (lC (.int 10)) (lC (.int 9))
  | .p91 => lOp addE (lOp powE (lC (.int 10)) (lC (.int 9))) (lC (.int 1))
  | .str s => lC (.str s)
  | .dic => lDnew
  | .tup xs => lTup (Lt.codes xs)
  | .lst xs => lLst (Lt.codes xs)
def Lt.codes : List Lt → LA
  | [] => lNil
  | x :: xs => lCons (Lt.code x) (Lt.codes xs)
end
mutual
def LtV (b0 : Nat) (h : EH) : EV → Lt → Prop
  | v, .non => v = .non
  | v, .bl b => v = .bl b
  | v, .int i => v = .int i
  | v, .neg i => v = .int (-i)
  | v, .p9 => v = .int 1000000000
  | v, .p91 => v = .int 1000000001
  | v, .str s => v = .str s
  | v, .dic => ∃ r, v = .ref r ∧ b0 ≤ r ∧ h[r]? = some (.dic [])
  | v, .tup xs => ∃ vs, v = .tup vs ∧ LtVs b0 h vs xs
  | v, .lst xs => ∃ r vs, v = .ref r ∧ b0 ≤ r ∧ h[r]? = some (.lst vs) ∧ LtVs b0 h vs xs
def LtVs (b0 : Nat) (h : EH) : List EV → List Lt → Prop
  | vs, [] => vs = []
  | vs, x :: xs => ∃ v ws, vs = v :: ws ∧ LtV b0 h v x ∧ LtVs b0 h ws xs
end
mutual
def Lt.sz : Lt → Bool
  | .tup xs => decide (xs.length ≤ 1000) && Lt.szs xs
  | .lst xs => decide (xs.length ≤ 1000) && Lt.szs xs
  | _ => true
def Lt.szs : List Lt → Bool
  | [] => true
  | x :: xs => Lt.sz x && Lt.szs xs
end
mutual
theorem LtV.keep {b0 : Nat} {S : Nat → Prop} {h h' : EH} (k : Keep S h h') (hS : ∀ r, b0 ≤ r → ¬ S r) : ∀ {v : EV} {l : Lt}, LtV b0 h v l → LtV b0 h' v l
  | v, .non, z => by rw [LtV] at z ⊢; exact z
  | v, .bl _, z => by rw [LtV] at z ⊢; exact z
  | v, .int _, z => by rw [LtV] at z ⊢; exact z
  | v, .neg _, z => by rw [LtV] at z ⊢; exact z
  | v, .p9, z => by rw [LtV] at z ⊢; exact z
  | v, .p91, z => by rw [LtV] at z ⊢; exact z
  | v, .str _, z => by rw [LtV] at z ⊢; exact z
  | v, .dic, z => by
    rw [LtV] at z ⊢
    obtain ⟨r, e, hr, a⟩ := z
    exact ⟨r, e, hr, k.2 r _ a (hS r hr)⟩
  | v, .tup xs, z => by
    rw [LtV] at z ⊢
    obtain ⟨vs, e, a⟩ := z
    exact ⟨vs, e, LtVs.keep k hS a⟩
  | v, .lst xs, z => by
    rw [LtV] at z ⊢
    obtain ⟨r, vs, e, hr, a, c⟩ := z
    exact ⟨r, vs, e, hr, k.2 r _ a (hS r hr), LtVs.keep k hS c⟩
theorem LtVs.keep {b0 : Nat} {S : Nat → Prop} {h h' : EH} (k : Keep S h h') (hS : ∀ r, b0 ≤ r → ¬ S r) : ∀ {vs : List EV} {xs : List Lt}, LtVs b0 h vs xs → LtVs b0 h' vs xs
  | vs, [], z => by rw [LtVs] at z ⊢; exact z
  | vs, x :: xs, z => by
    rw [LtVs] at z ⊢
    obtain ⟨v, ws, e, a, c⟩ := z
    exact ⟨v, ws, e, LtV.keep k hS a, LtVs.keep k hS c⟩
end
theorem LtVs.len {b0 : Nat} {h : EH} : ∀ {vs : List EV} {xs : List Lt}, LtVs b0 h vs xs → vs.length = xs.length
  | vs, [], z => by rw [LtVs] at z; rw [z]; rfl
  | vs, x :: xs, z => by
    rw [LtVs] at z
    obtain ⟨v, ws, rfl, _, c⟩ := z
    simp [LtVs.len c]
theorem LtVs.mem {b0 : Nat} {h : EH} : ∀ {vs : List EV} {xs : List Lt}, LtVs b0 h vs xs → ∀ v ∈ vs, ∃ l ∈ xs, LtV b0 h v l
  | vs, [], z, v, hv => by rw [LtVs] at z; subst z; cases hv
  | vs, x :: xs, z, v, hv => by
    rw [LtVs] at z
    obtain ⟨w, ws, rfl, a, c⟩ := z
    rcases List.mem_cons.mp hv with rfl | hv
    · exact ⟨x, by simp, a⟩
    · obtain ⟨l, hl, al⟩ := LtVs.mem c v hv
      exact ⟨l, by simp [hl], al⟩
theorem LtVs.app {b0 : Nat} {h : EH} : ∀ {vs ws : List EV} {xs ys : List Lt}, LtVs b0 h vs xs → LtVs b0 h ws ys → LtVs b0 h (vs ++ ws) (xs ++ ys)
  | vs, ws, [], ys, a, c => by rw [LtVs] at a; subst a; exact c
  | vs, ws, x :: xs, ys, a, c => by
    rw [LtVs] at a
    obtain ⟨v, us, rfl, a1, a2⟩ := a
    rw [List.cons_append, List.cons_append, LtVs]
    exact ⟨v, _, rfl, a1, LtVs.app a2 c⟩
mutual
theorem Lt.run {b0 : Nat} {env : En} : ∀ (l : Lt) {h : EH} {P : EK}, l.sz = true → b0 ≤ h.length → (∀ v h', Keep no1 h h' → LtV b0 h' v l → P v h') → l.code env h P
  | .non, h, P, _, _, p => by rw [Lt.code]; exact p _ _ .refl (by rw [LtV])
  | .bl b, h, P, _, _, p => by rw [Lt.code]; exact p _ _ .refl (by rw [LtV])
  | .int i, h, P, _, _, p => by rw [Lt.code]; exact p _ _ .refl (by rw [LtV])
  | .neg i, h, P, _, _, p => by rw [Lt.code]; exact p _ _ .refl (by rw [LtV])
  | .p9, h, P, _, _, p => by
    rw [Lt.code]
    refine po9 ?_
    exact p _ _ .refl (by rw [LtV])
  | .p91, h, P, _, _, p => by
    rw [Lt.code]
    simp only [lOp, lC]
    refine po9 ?_
    simp only [addE, intP]
    exact p _ _ .refl (by rw [LtV]; rfl)
  | .str s, h, P, _, _, p => by rw [Lt.code]; exact p _ _ .refl (by rw [LtV])
  | .dic, h, P, _, hb, p => by
    rw [Lt.code]
    exact p _ _ (Keep.app _) (by rw [LtV]; exact ⟨_, rfl, hb, new_at⟩)
  | .tup xs, h, P, s, hb, p => by
    rw [Lt.sz, Bool.and_eq_true] at s
    rw [Lt.code, lTup]
    refine Lt.runs xs s.2 hb fun vs h' k z => ⟨?_, p _ _ k (by rw [LtV]; exact ⟨vs, rfl, z⟩)⟩
    have := of_decide_eq_true s.1
    rw [z.len, sizeL]; omega
  | .lst xs, h, P, s, hb, p => by
    rw [Lt.sz, Bool.and_eq_true] at s
    rw [Lt.code, lLst]
    refine Lt.runs xs s.2 hb fun vs h' k z => ⟨?_, p _ _ (k.trans (Keep.app _)) (by
      rw [LtV]
      exact ⟨_, vs, rfl, Nat.le_trans hb k.1, new_at, z.keep (S := no1) (Keep.app _) (fun _ _ e => e)⟩)⟩
    have := of_decide_eq_true s.1
    rw [z.len, sizeL]; omega
theorem Lt.runs {b0 : Nat} {env : En} : ∀ (xs : List Lt) {h : EH} {P : List EV → EH → Prop}, Lt.szs xs = true → b0 ≤ h.length → (∀ vs h', Keep no1 h h' → LtVs b0 h' vs xs → P vs h') → Lt.codes xs env h P
  | [], h, P, _, _, p => by rw [Lt.codes]; exact p _ _ .refl (by rw [LtVs])
  | x :: xs, h, P, s, hb, p => by
    rw [Lt.szs, Bool.and_eq_true] at s
    rw [Lt.codes, lCons]
    refine Lt.run x s.1 hb fun v h1 k1 z1 => Lt.runs xs s.2 (Nat.le_trans hb k1.1) fun vs h2 k2 z2 => p _ _ (k1.trans k2) ?_
    rw [LtVs]
    exact ⟨v, vs, rfl, z1.keep k2 (fun _ _ e => e), z2⟩
end
mutual
def Lt.data : Lt → PyData
  | .non => .none
  | .bl b => .bool b
  | .int i => .int i
  | .neg i => .int (-i)
  | .p9 => .int 1000000000
  | .p91 => .int 1000000001
  | .str s => .str (S s)
  | .dic => dicD []
  | .tup xs => .tuple (Lt.datas xs)
  | .lst xs => .list (Lt.datas xs)
def Lt.datas : List Lt → List PyData
  | [] => []
  | x :: xs => Lt.data x :: Lt.datas xs
end
mutual
/-- no dict in it, nested at most n deep -/
def Lt.pl : Nat → Lt → Bool
  | _, .dic => false
  | n, .tup xs => match n with
    | 0 => false
    | n + 1 => Lt.pls n xs
  | n, .lst xs => match n with
    | 0 => false
    | n + 1 => Lt.pls n xs
  | _, _ => true
def Lt.pls : Nat → List Lt → Bool
  | _, [] => true
  | n, x :: xs => Lt.pl n x && Lt.pls n xs
end
mutual
theorem LtV.dat {b0 : Nat} {h : EH} : ∀ {v : EV} {n : Nat} {l : Lt}, Lt.pl n l = true → LtV b0 h v l → Dat h n v l.data
  | v, n, .non, _, z => by rw [LtV] at z; subst z; rw [Lt.data]; exact .non
  | v, n, .bl b, _, z => by rw [LtV] at z; subst z; rw [Lt.data]; exact .bl b
  | v, n, .int i, _, z => by rw [LtV] at z; subst z; rw [Lt.data]; exact .int i
  | v, n, .neg i, _, z => by rw [LtV] at z; subst z; rw [Lt.data]; exact .int _
  | v, n, .p9, _, z => by rw [LtV] at z; subst z; rw [Lt.data]; exact .int _
  | v, n, .p91, _, z => by rw [LtV] at z; subst z; rw [Lt.data]; exact .int _
  | v, n, .str s, _, z => by rw [LtV] at z; subst z; rw [Lt.data]; exact .str s
  | v, n, .dic, p, z => by rw [Lt.pl] at p; cases p
  | v, 0, .tup xs, p, z => by rw [Lt.pl] at p; cases p
  | v, n + 1, .tup xs, p, z => by
    rw [Lt.pl] at p
    rw [LtV] at z
    obtain ⟨vs, rfl, c⟩ := z
    rw [Lt.data]
    exact .tup (LtVs.dat p c)
  | v, 0, .lst xs, p, z => by rw [Lt.pl] at p; cases p
  | v, n + 1, .lst xs, p, z => by
    rw [Lt.pl] at p
    rw [LtV] at z
    obtain ⟨r, vs, rfl, _, e, c⟩ := z
    rw [Lt.data]
    exact .lst e (LtVs.dat p c)
theorem LtVs.dat {b0 : Nat} {h : EH} : ∀ {vs : List EV} {n : Nat} {xs : List Lt}, Lt.pls n xs = true → LtVs b0 h vs xs → Dats h n vs (Lt.datas xs)
  | vs, n, [], _, z => by rw [LtVs] at z; subst z; rw [Lt.datas]; exact .nil
  | vs, n, x :: xs, p, z => by
    rw [Lt.pls, Bool.and_eq_true] at p
    rw [LtVs] at z
    obtain ⟨v, ws, rfl, a, c⟩ := z
    rw [Lt.datas]
    exact .cons (LtV.dat p.1 a) (LtVs.dat p.2 c)
end
end Y

namespace Y
open PySem PySem.Spec PyProof.Rows L2

theorem dss_map {α : Type} {h : EH} {n c : Nat} (f : α → EV) (d : α → PyData) : ∀ {xs : List α}, (∀ x ∈ xs, DS h n c (f x) (d x)) → DSs h n (xs.length * (c + 1)) (xs.map f) (xs.map d)
  | [], _ => by simpa using (DSs.nil (k := 0))
  | x :: xs, hx => by
    have := DSs.cons (hx x (by simp)) (dss_map f d (xs := xs) fun y hy => hx y (by simp [hy]))
    refine DSs.more this ?_
    simp [Nat.add_mul]; omega
end Y

namespace Y
open PySem PySem.Spec PyProof.Rows L2

def fitG : Lt → Bool
  | .dic => true
  | x => Lt.pl 40 x && flatD x.data
def fitF (l : Lt) : Bool := Lt.pl 40 l || match l with
  | .dic => true
  | .tup xs => xs.all fitG
  | _ => false
theorem LtV.datG {b0 : Nat} {h : EH} {v : EV} {l : Lt} (f : fitG l = true) (z : LtV b0 h v l) : DatG h v l.data := by
  unfold fitG at f
  split at f
  · rw [LtV] at z
    obtain ⟨r, rfl, _, e⟩ := z
    rw [Lt.data]
    exact .dic e .nil
  · rw [Bool.and_eq_true] at f
    exact .fl (Dat.deep (z.dat f.1) (by decide)) f.2
theorem LtVs.datG {b0 : Nat} {h : EH} : ∀ {vs : List EV} {xs : List Lt}, xs.all fitG = true → LtVs b0 h vs xs → DatGs h vs (Lt.datas xs)
  | vs, [], _, z => by rw [LtVs] at z; subst z; rw [Lt.datas]; exact .nil
  | vs, x :: xs, f, z => by
    rw [List.all_cons, Bool.and_eq_true] at f
    rw [LtVs] at z
    obtain ⟨v, ws, rfl, a, c⟩ := z
    rw [Lt.datas]
    exact .cons (a.datG f.1) (LtVs.datG f.2 c)
theorem LtV.datF {b0 : Nat} {h : EH} {v : EV} {l : Lt} (f : fitF l = true) (z : LtV b0 h v l) : DatF h v l.data := by
  unfold fitF at f
  rw [Bool.or_eq_true] at f
  rcases f with f | f
  · exact .e (.pl (Dat.deep (z.dat f) (by decide)))
  · split at f
    · rw [LtV] at z
      obtain ⟨r, rfl, _, e⟩ := z
      rw [Lt.data]
      exact .e (.dic e .nil)
    · rename_i xs
      rw [LtV] at z
      obtain ⟨vs, rfl, c⟩ := z
      rw [Lt.data]
      exact .tp (c.datG f)
    · cases f
theorem LtV.kn {b0 : Nat} {h : EH} : ∀ {v : EV} {l : Lt}, LtV b0 h v l → Kn h v
  | v, .non, z => by rw [LtV] at z; subst z; exact ⟨⟨"NoneType", fun _ _ => rfl⟩, fun _ e => by cases e⟩
  | v, .bl b, z => by rw [LtV] at z; subst z; exact ⟨⟨"bool", fun _ _ => rfl⟩, fun _ e => by cases e⟩
  | v, .int i, z => by rw [LtV] at z; subst z; exact kn_int _
  | v, .neg i, z => by rw [LtV] at z; subst z; exact kn_int _
  | v, .p9, z => by rw [LtV] at z; subst z; exact kn_int _
  | v, .p91, z => by rw [LtV] at z; subst z; exact kn_int _
  | v, .str s, z => by rw [LtV] at z; subst z; exact kn_str _
  | v, .dic, z => by
    rw [LtV] at z
    obtain ⟨r, rfl, _, e⟩ := z
    exact ⟨⟨"dict", fun h' k => by simp only [tyE, k.at e]⟩, fun _ e => by cases e⟩
  | v, .tup xs, z => by
    rw [LtV] at z
    obtain ⟨vs, rfl, _⟩ := z
    exact kn_tup _
  | v, .lst xs, z => by
    rw [LtV] at z
    obtain ⟨r, vs, rfl, _, e, _⟩ := z
    exact ⟨⟨"list", fun h' k => by simp only [tyE, k.at e]⟩, fun _ e => by cases e⟩
theorem ltv_tup {b0 : Nat} {h : EH} {vs : List EV} {l : Lt} (z : LtV b0 h (.tup vs) l) : ∃ xs, l = .tup xs ∧ LtVs b0 h vs xs := by
  cases l with
  | tup xs =>
    rw [LtV] at z
    obtain ⟨ws, e, c⟩ := z
    cases e
    exact ⟨xs, rfl, c⟩
  | dic => rw [LtV] at z; obtain ⟨r, e, _⟩ := z; cases e
  | lst xs => rw [LtV] at z; obtain ⟨r, ws, e, _⟩ := z; cases e
  | _ => rw [LtV] at z; cases z
theorem szs_mem : ∀ {xs : List Lt}, Lt.szs xs = true → ∀ x ∈ xs, x.sz = true
  | x :: xs, s, y, hy => by
    rw [Lt.szs, Bool.and_eq_true] at s
    rcases List.mem_cons.mp hy with rfl | hy
    · exact s.1
    · exact szs_mem s.2 y hy
theorem LtV.kd {b0 : Nat} {h : EH} {v : EV} {l : Lt} (s : l.sz = true) (z : LtV b0 h v l) : Kd h v := by
  refine ⟨z.kn, fun vs e => ?_⟩
  subst e
  obtain ⟨xs, rfl, c⟩ := ltv_tup z
  rw [Lt.sz, Bool.and_eq_true] at s
  refine ⟨by rw [c.len]; exact of_decide_eq_true s.1, fun v hv => ?_⟩
  obtain ⟨l, hl, zl⟩ := c.mem v hv
  refine ⟨zl.kn, fun ws e => ?_⟩
  subst e
  obtain ⟨ys, rfl, c2⟩ := ltv_tup zl
  have s2 := szs_mem s.2 _ hl
  rw [Lt.sz, Bool.and_eq_true] at s2
  refine ⟨by rw [c2.len]; exact of_decide_eq_true s2.1, fun y hy => ?_⟩
  obtain ⟨l2, _, z2⟩ := c2.mem y hy
  exact z2.kn
def OdOk (b : Nat) (h : EH) (v : EV) : Prop := ∃ d : PyData, d.showable = true ∧ d.leavesShort 13 = true ∧ d.weight ≤ 8000 ∧ ∀ h', Keep (is1 b) h h' → Kd h' v ∧ DatF h' v d
theorem OdOk.keep {b : Nat} {h h' : EH} {v : EV} (z : OdOk b h v) (k : Keep (is1 b) h h') : OdOk b h' v := by
  obtain ⟨d, a1, a2, a3, a4⟩ := z
  exact ⟨d, a1, a2, a3, fun h2 k2 => a4 h2 (k.trans k2)⟩
def ltOk (l : Lt) : Bool := l.sz && fitF l && l.data.showable && l.data.leavesShort 13 && decide (l.data.weight ≤ 1000)
theorem LtV.od {b b0 : Nat} {h : EH} {v : EV} {l : Lt} (o : ltOk l = true) (hb : b < b0) (z : LtV b0 h v l) : OdOk b h v := by
  unfold ltOk at o
  simp only [Bool.and_eq_true, decide_eq_true_eq] at o
  refine ⟨l.data, o.1.1.2, o.1.2, by omega, fun h' k => ?_⟩
  have z' := z.keep k (fun r hr e => by unfold is1 at e; omega)
  exact ⟨z'.kd o.1.1.1.1, z'.datF o.1.1.1.2⟩
end Y

namespace Y
open PySem PySem.Spec PyProof.Rows L2

def whD : Dd → PyData
  | .keep n => .int n
  | .drop n => .int n
  | .put xs => .tuple (xs.map PyData.int)
structure SmD (d : Dd) : Prop where
  ok : d.ok
  ln : d.units.length ≤ 60
  lt : LetU d.units
theorem SmD.what {d : Dd} (z : SmD d) (h : EH) : DS h 10 5000 d.what (whD d) := by
  have ln := z.ln
  cases d with
  | keep n => exact DS.int (by simp [Dd.units] at ln; omega) (by decide)
  | drop n => exact DS.int (by simp [Dd.units] at ln; omega) (by decide)
  | put xs =>
    have xl : xs.length ≤ 60 := by simpa [Dd.units] using ln
    refine DS.more (DS.tup (n := 9) (dss_map (c := 41) EV.int PyData.int fun x hx => DS.int ?_ (Nat.le_refl _))) (by omega)
    have := z.lt x (by simp [Dd.units]; exact hx)
    unfold LetOk at this
    omega
theorem word_ok (d : Dd) : (∀ c ∈ d.word, c < 16 ^ 8) ∧ d.word.length ≤ 10 := by
  cases d with
  | keep n => exact ⟨(by decide : ∀ c ∈ sKeep, c < 16 ^ 8), (by decide : sKeep.length ≤ 10)⟩
  | drop n => exact ⟨(by decide : ∀ c ∈ sDrop, c < 16 ^ 8), (by decide : sDrop.length ≤ 10)⟩
  | put xs => exact ⟨(by decide : ∀ c ∈ sPut, c < 16 ^ 8), (by decide : sPut.length ≤ 10)⟩
theorem SmD.ds {d : Dd} (z : SmD d) (h : EH) : DS h 11 6000 d.e (.tuple [.str (S d.word), whD d]) := by
  rw [Dd.e_eq]
  exact DS.more (DS.tup (DSs.cons (DS.str (k := 10) (word_ok d).1 (word_ok d).2) (DSs.cons (z.what h) (DSs.nil (k := 0))))) (by decide)
theorem SmD.od {d : Dd} (z : SmD d) {b : Nat} {h : EH} : OdOk b h d.e := by
  have ds := z.ds h
  refine ⟨_, ds.2.1, ds.2.2.1, Nat.le_trans ds.2.2.2 (by decide), fun h' k => ⟨kd_deed (by have := z.ln; omega), .e (.pl (Dat.deep (z.ds h').1 (by decide)))⟩⟩
end Y

namespace Y
open PySem PySem.Spec PyProof.Rows L2

theorem joinL_cnt {s : Nat} : ∀ {ws : List (List Nat)}, ws ≠ [] → (∀ w ∈ ws, s ∉ w) → (TL.joinL [s] ws).count s = ws.length - 1
  | [w], _, h => by rw [TL.joinL]; simpa using List.count_eq_zero.mpr (h w (by simp))
  | w :: v :: ws, _, h => by
    rw [TL.joinL, List.count_append, List.count_append, joinL_cnt (ws := v :: ws) (by simp) fun u hu => h u (by simp [List.mem_cons.mp hu]), List.count_eq_zero.mpr (h w (by simp))]
    simp
    omega
theorem line_c32 {d : Dd} (z : DdOk d) : (lineS d).count 32 = (numsD d).length := by
  unfold lineS lineB
  rw [List.count_append, joinL_cnt (by simp [wordsD]) fun w hw => (numsD_word z w hw).1]
  simp [wordsD]
def numsT (D : Delta) : Nat := (D.map fun d => (numsD d).length).sum
theorem lines_c32 : ∀ {D : Delta}, (∀ d ∈ D, DdOk d) → (linesS D).count 32 = numsT D
  | [], _ => rfl
  | d :: D, h => by
    have ih := lines_c32 (D := D) fun x hx => h x (by simp [hx])
    unfold linesS numsT at ih ⊢
    rw [List.map_cons, List.flatten_cons, List.count_append, line_c32 (h d (by simp)), ih]
    simp
theorem lines_c10 {D : Delta} (h : ∀ d ∈ D, DdOk d) : (linesS D).count 10 = D.length := by
  have a := splC_lines h
  have b := splC_count 10 (linesS D)
  rw [a] at b
  simp at b
  omega
theorem numsT_units : ∀ {D : Delta}, AllOk D → numsT D ≤ (unitsD D).length
  | [], _ => Nat.le_refl _
  | d :: D, h => by
    have ih := numsT_units (D := D) fun x hx => h x (by simp [hx])
    rw [unitsD_cons, List.length_append]
    have hd : (numsD d).length ≤ d.units.length := by
      have := h d (by simp)
      cases d with
      | keep n => simp only [Dd.units, List.length_replicate, numsD, List.length_singleton]; exact this
      | drop n => simp only [Dd.units, List.length_replicate, numsD, List.length_singleton]; exact this
      | put xs => simp [Dd.units, numsD]
    unfold numsT at ih ⊢
    simp only [List.map_cons, List.sum_cons]
    omega
theorem joinL_mem {p : Nat → Prop} {s : Nat} (hs : p s) : ∀ {ws : List (List Nat)}, (∀ w ∈ ws, ∀ c ∈ w, p c) → ∀ c ∈ TL.joinL [s] ws, p c
  | [], _, c, h => by simp [TL.joinL] at h
  | [w], hw, c, h => by rw [TL.joinL] at h; exact hw w (by simp) c h
  | w :: v :: ws, hw, c, h => by
    rw [TL.joinL] at h
    rcases List.mem_append.mp h with h | h
    · exact hw w (by simp) c h
    · rcases List.mem_append.mp h with h | h
      · rw [List.mem_singleton.mp h]; exact hs
      · exact joinL_mem hs (ws := v :: ws) (fun u hu => hw u (by simp [List.mem_cons.mp hu])) c h
theorem lines_chr {D : Delta} : ∀ c ∈ linesS D, c < 16 ^ 8 := by
  intro c hc
  unfold linesS at hc
  rw [List.mem_flatten] at hc
  obtain ⟨l, hl, hc⟩ := hc
  obtain ⟨d, _, rfl⟩ := List.mem_map.mp hl
  unfold lineS lineB at hc
  rcases List.mem_append.mp hc with hc | hc
  · refine joinL_mem (p := fun c => c < 16 ^ 8) (by decide) (fun w hw c hc => ?_) c hc
    rcases List.mem_cons.mp hw with rfl | hw
    · exact (word_ok d).1 c hc
    · obtain ⟨x, _, rfl⟩ := List.mem_map.mp hw
      have := (TL.numL_digits _ c hc).2
      omega
  · rw [List.mem_singleton.mp hc]; decide
theorem deedT_ok {l : List Nat} {d : Dd} (e : deedT l = some d) : DdOk d ∧ (numsD d).length ≤ l.count 32 := by
  have cn := splC_count 32 l
  have tl : ((splC 32 l).tail.map numI).length = l.count 32 := by rw [List.length_map, List.length_tail]; omega
  unfold deedT at e
  generalize (splC 32 l).headD [] = w at e
  generalize (splC 32 l).tail.map numI = ns at e tl
  unfold deedW at e
  split at e
  · split at e
    · rename_i h
      cases e
      refine ⟨⟨fun z => h.1 (List.map_eq_nil_iff.mp z), fun x hx => ?_⟩, by simp only [numsD, List.length_map]; omega⟩
      simp only [numsD] at hx
      obtain ⟨o, ho, rfl⟩ := List.mem_map.mp hx
      have := List.all_eq_true.mp h.2 o ho
      cases o with
      | none => cases this
      | some n =>
        have := of_decide_eq_true this
        simp only [Option.getD_some]
        omega
    · cases e
  · split at e
    · rename_i n
      simp at tl
      split at e
      · rename_i h
        split at e
        · cases e
          exact ⟨⟨h.1, fun x hx => by rw [List.mem_singleton.mp hx]; omega⟩, by simp only [numsD, List.length_singleton]; omega⟩
        · split at e
          · cases e
            exact ⟨⟨h.1, fun x hx => by rw [List.mem_singleton.mp hx]; omega⟩, by simp only [numsD, List.length_singleton]; omega⟩
          · cases e
      · cases e
    · cases e
theorem readL_in : ∀ {ls : List (List Nat)} {i : Nat} {D E : Delta}, readL ls i D = .inr E → E.length = D.length + ls.length ∧ ∀ d ∈ E, d ∈ D ∨ ∃ l ∈ ls, deedT l = some d
  | [], i, D, E, e => by
    rw [readL] at e
    cases e
    exact ⟨by simp, fun d hd => .inl hd⟩
  | l :: ls, i, D, E, e => by
    rw [readL_cons] at e
    split at e
    · cases e
    · rename_i d ed
      split at e
      · cases e
      · have ih := readL_in e
        refine ⟨by rw [ih.1]; simp; omega, fun x hx => ?_⟩
        rcases ih.2 x hx with h | ⟨l', hl, h⟩
        · rcases List.mem_append.mp h with h | h
          · exact .inl h
          · rw [List.mem_singleton.mp h]
            exact .inr ⟨l, by simp, ed⟩
        · exact .inr ⟨l', by simp [hl], h⟩
theorem readL_no : ∀ {ls : List (List Nat)} {i k : Nat} {D : Delta}, readL ls i D = .inl k → k ≤ i + ls.length
  | [], i, k, D, e => by rw [readL] at e; cases e
  | l :: ls, i, k, D, e => by
    rw [readL_cons] at e
    rw [List.length_cons]
    split at e
    · cases e; omega
    · split at e
      · cases e; omega
      · have := readL_no e; omega
structure RdOk (t : List Nat) : Prop where
  ln : t.length ≤ 100000
  c32 : t.count 32 ≤ 100
  c10 : t.count 10 ≤ 60
theorem RdOk.lnT {t : List Nat} (z : RdOk t) : LnT t := ⟨z.ln, by have := z.c32; omega⟩
theorem readT_in {t : List Nat} (z : RdOk t) {D : Delta} (e : readT t = .inr D) : (∀ d ∈ D, LnD d) ∧ D.length ≤ 60 := by
  unfold readT at e
  split at e
  · cases e
  · rename_i E eE
    split at e
    · cases e
      have r := readL_in eE
      have cn := splC_count 10 t
      have c10 := z.c10
      refine ⟨fun d hd => ?_, by rw [r.1, List.length_dropLast]; simp; omega⟩
      rcases r.2 d hd with h | ⟨l, hl, h⟩
      · cases h
      · have q := deedT_ok h
        have lm : l ∈ splC 10 t := (List.dropLast_sublist _).mem hl
        have := splC_cnt 10 32 t l lm
        have := z.c32
        exact ⟨q.1, by omega⟩
    · cases e
theorem readT_no {t : List Nat} {k : Nat} (e : readT t = .inl k) : k ≤ t.length := by
  unfold readT at e
  have cn := splC_count 10 t
  have cl : t.count 10 ≤ t.length := List.count_le_length
  split at e
  · rename_i i ei
    have r := readL_no ei
    rw [List.length_dropLast] at r
    cases e
    omega
  · split at e
    · cases e
    · cases e; omega
theorem LnD.sml {d : Dd} (z : LnD d) {n : Nat} : Sml (n + 2) d.e ∧ wE d.e ≤ 5000 := by
  have rg := z.z.rg
  have ln := z.l
  cases d with
  | keep k =>
    have := rg (k : Int) (by simp [numsD])
    simp only [Dd.e, Sml, Smls, wE, wEs]
    exact ⟨⟨by simp [sKeep], by omega, trivial⟩, by simp [sKeep]⟩
  | drop k =>
    have := rg (k : Int) (by simp [numsD])
    simp only [Dd.e, Sml, Smls, wE, wEs]
    exact ⟨⟨by simp [sDrop], by omega, trivial⟩, by simp [sDrop]⟩
  | put xs =>
    have xl : xs.length ≤ 100 := ln
    have w := tx_w xs
    have s : Sml (n + 1) (tx xs) := tx_sml (n := n) (fun x hx => by have := rg x hx; unfold LetOk; omega)
    have w' : wEs (xs.map EV.int) = 42 * xs.length := by rw [tx, wE] at w; exact w
    simp only [Dd.e, Sml, Smls, wE, wEs, w']
    exact ⟨⟨by simp [sPut], s, trivial⟩, by simp [sPut]; omega⟩
theorem lnD_ds {D : Delta} (z : ∀ d ∈ D, LnD d) (hl : D.length ≤ 100) {h : EH} {r : Nat} (e : h[r]? = some (.lst (D.map Dd.e))) : DS h 10 520000 (.ref r) (.list (pds (D.map Dd.e))) := by
  refine DS.lst e ((Smls.ds 9 (D.map Dd.e) (Smls.all fun v hv => ?_)).more ?_)
  · obtain ⟨d, hd, rfl⟩ := List.mem_map.mp hv
    exact (z d hd).sml.1
  · refine Nat.le_trans (wEs_le (c := 5000) fun v hv => ?_) ?_
    · obtain ⟨d, hd, rfl⟩ := List.mem_map.mp hv
      exact ((z d hd).sml (n := 0)).2
    · rw [List.length_map]; omega
def rdD (t : List Nat) : PyData := match readT t with
  | .inl k => .tuple [.str (S wBl), .int k]
  | .inr D => .tuple [.str (S wDlt), .list (pds (D.map Dd.e))]
def RdV (t : List Nat) (b0 : Nat) (h : EH) (v : EV) : Prop := match readT t with
  | .inl k => v = .tup [.str wBl, .int k]
  | .inr D => ∃ r, v = .tup [.str wDlt, .ref r] ∧ b0 ≤ r ∧ h[r]? = some (.lst (D.map Dd.e))
theorem RdV.keep {t : List Nat} {b0 : Nat} {h h' : EH} {v : EV} (z : RdV t b0 h v) (k : Keep no1 h h') : RdV t b0 h' v := by
  unfold RdV at z ⊢
  split at z
  · rename_i k' e; exact z
  · rename_i D e
    obtain ⟨r, a, b, c⟩ := z
    exact ⟨r, a, b, k.at c⟩
theorem RdV.ds {t : List Nat} (z0 : RdOk t) {b0 : Nat} {h : EH} {v : EV} (z : RdV t b0 h v) : DS h 12 530000 v (rdD t) := by
  unfold RdV rdD at *
  split at z
  · rename_i k e
    subst z
    try rw [e]
    have := readT_no e
    have := z0.ln
    exact DS.more (DS.tup (DSs.cons (DS.str (k := 10) (by decide) (by decide)) (DSs.cons (DS.int (by omega) (Nat.le_refl _)) (DSs.nil (k := 0))))) (by decide)
  · rename_i D e
    try rw [e]
    obtain ⟨r, rfl, _, er⟩ := z
    have q := readT_in z0 e
    have ds := lnD_ds q.1 (by omega) er
    exact DS.more (DS.tup (DSs.cons (DS.str (k := 10) (by decide) (by decide)) (DSs.cons ⟨Dat.deep' _ _ 11 _ (by decide) ds.1, ds.2⟩ (DSs.nil (k := 0))))) (by decide)
theorem rg_any {t : List Nat} {h : EH} {Q : EK} (q : ∀ v h', Keep no1 h h' → RdV t h.length h' v → Q v h') : RgQ t h Q := by
  refine ⟨fun D e r h' k l er => q _ _ k ?_, fun k e h' kk => q _ _ kk ?_⟩
  · unfold RdV; rw [e]; exact ⟨r, rfl, l, er⟩
  · unfold RdV; rw [e]
def someW : List (List Nat) := [[48], [49], [57], [32], [10], [107, 101, 101, 112, 32, 50, 10], [100, 114, 111, 112, 32, 49, 10], [112, 117, 116, 32, 52], [107], [45, 49], [43], [95], [49, 48, 48, 48, 48, 48, 48, 48, 48, 48], [48, 49], [112, 117, 116, 32], [80], []]
theorem someW_ok : ∀ w ∈ someW, w.length ≤ 10 ∧ w.count 32 ≤ 1 ∧ w.count 10 ≤ 1 := by decide
structure BentOf (k : Nat) (t t2 : List Nat) : Prop where
  ln : t2.length ≤ t.length + 10 * k
  c32 : t2.count 32 ≤ t.count 32 + k
  c10 : t2.count 10 ≤ t.count 10 + k
theorem bent_cnt (c : Nat) (t : List Nat) (a g : Nat) : (t.take a).count c + (t.drop (a + g)).count c ≤ t.count c := by
  have h : t.count c = (t.take a).count c + (t.drop a).count c := by rw [← List.count_append, List.take_append_drop]
  have h2 : (t.drop (a + g)).count c ≤ (t.drop a).count c := by
    rw [← List.drop_drop]
    exact (List.drop_sublist g _).count_le c
  omega
theorem BentOf.step {k : Nat} {t t2 w : List Nat} (z : BentOf k t t2) (hw : w ∈ someW) (a g : Nat) : BentOf (k + 1) t (t2.take a ++ w ++ t2.drop (a + g)) := by
  obtain ⟨z1, z2, z3⟩ := z
  obtain ⟨w1, w2, w3⟩ := someW_ok w hw
  have c1 := bent_cnt 32 t2 a g
  have c2 := bent_cnt 10 t2 a g
  refine ⟨?_, ?_, ?_⟩
  · rw [List.length_append, List.length_append, List.length_take, List.length_drop]; omega
  · rw [List.count_append, List.count_append]; omega
  · rw [List.count_append, List.count_append]; omega
def sp__law_bent_k97 (ad : Ad) : LSp := fun evs h Q => ∃ (b : Nat) (t : List Nat), evs = [.ref b, .str t] ∧ t.length ≤ 90000 ∧ BagAt h b ∧ ∀ t2 h', BentOf 2 t t2 → Keep (is1 b) h h' → BagAt h' b → Q (.str t2) h'
structure TxOk (D : Delta) : Prop where
  z : ∀ d ∈ D, LnD d
  p : Proper D
  l : D.length ≤ 40
  n : numsT D ≤ 40
def sp__law_texts_right (ad : Ad) : LSp := fun evs h Q => ∃ (b r : Nat) (D : Delta), evs = [.ref b, .ref r] ∧ h[r]? = some (.lst (D.map Dd.e)) ∧ TxOk D ∧ r ≠ b ∧ BagAt h b ∧ ∀ h', Keep (is1 b) h h' → BagAt h' b → Q (.bl true) h'
abbrev N__law_bent_k97 : List Str := ["_law_bag_here", "_law_text", "_law_some", "_law_k", "_law_at", "_law_gone"]
def t__law_bent_k97_2 (ad : Ad) : LS :=
    lRet (lVar 1)
def t__law_bent_k97_1b_1 (ad : Ad) : LS :=
    lSet (lOp addE (lOp addE (lSl (lVar 1) (lPart none) (lPart (some (lVar 4)))) (lCall (sp__law_one ad) (lCons (lVar 0) (lCons (lVar 2) (lNil))))) (lSl (lVar 1) (lPart (some (lOp addE (lVar 4) (lVar 5)))) (lPart none))) 1
def t__law_bent_k97_1b_0 (ad : Ad) : LS :=
    lSeq (lPar 4 5 (lCons (lCall (sp__law_take ad) (lCons (lVar 0) (lCons (lOp addE (lCB lenE (lCons (lVar 1) (lNil))) (lC (.int 1))) (lNil)))) (lCons (lCall (sp__law_take ad) (lCons (lVar 0) (lCons (lC (.int 3)) (lNil)))) (lNil)))) <| t__law_bent_k97_1b_1 ad
def t__law_bent_k97_1 (ad : Ad) : LS :=
    lSeq (lFor (lRng1 (lCons (lOp addE (lC (.int 1)) (lCall (sp__law_take ad) (lCons (lVar 0) (lCons (lC (.int 2)) (lNil))))) (lNil))) (.nm 3)
      (t__law_bent_k97_1b_0 ad)) <| t__law_bent_k97_2 ad
def t__law_bent_k97_0 (ad : Ad) : LS :=
    lSeq (lSet (lLst (lCons (lC (.str [48])) (lCons (lC (.str [49])) (lCons (lC (.str [57])) (lCons (lC (.str [32])) (lCons (lC (.str [10])) (lCons (lC (.str [107, 101, 101, 112, 32, 50, 10])) (lCons (lC (.str [100, 114, 111, 112, 32, 49, 10])) (lCons (lC (.str [112, 117, 116, 32, 52])) (lCons (lC (.str [107])) (lCons (lC (.str [45, 49])) (lCons (lC (.str [43])) (lCons (lC (.str [95])) (lCons (lC (.str [49, 48, 48, 48, 48, 48, 48, 48, 48, 48])) (lCons (lC (.str [48, 49])) (lCons (lC (.str [112, 117, 116, 32])) (lCons (lC (.str [80])) (lCons (lC (.str [])) (lNil))))))))))))))))))) 2) <| t__law_bent_k97_1 ad
def t__law_bent_k97 (ad : Ad) : LS :=
    lSeq (lSet (lLst (lCons (lC (.str [48])) (lCons (lC (.str [49])) (lCons (lC (.str [57])) (lCons (lC (.str [32])) (lCons (lC (.str [10])) (lCons (lC (.str [107, 101, 101, 112, 32, 50, 10])) (lCons (lC (.str [100, 114, 111, 112, 32, 49, 10])) (lCons (lC (.str [112, 117, 116, 32, 52])) (lCons (lC (.str [107])) (lCons (lC (.str [45, 49])) (lCons (lC (.str [43])) (lCons (lC (.str [95])) (lCons (lC (.str [49, 48, 48, 48, 48, 48, 48, 48, 48, 48])) (lCons (lC (.str [48, 49])) (lCons (lC (.str [112, 117, 116, 32])) (lCons (lC (.str [80])) (lCons (lC (.str [])) (lNil))))))))))))))))))) 2) <|
    lSeq (lFor (lRng1 (lCons (lOp addE (lC (.int 1)) (lCall (sp__law_take ad) (lCons (lVar 0) (lCons (lC (.int 2)) (lNil))))) (lNil))) (.nm 3)
      (lSeq (lPar 4 5 (lCons (lCall (sp__law_take ad) (lCons (lVar 0) (lCons (lOp addE (lCB lenE (lCons (lVar 1) (lNil))) (lC (.int 1))) (lNil)))) (lCons (lCall (sp__law_take ad) (lCons (lVar 0) (lCons (lC (.int 3)) (lNil)))) (lNil)))) <|
    lSet (lOp addE (lOp addE (lSl (lVar 1) (lPart none) (lPart (some (lVar 4)))) (lCall (sp__law_one ad) (lCons (lVar 0) (lCons (lVar 2) (lNil))))) (lSl (lVar 1) (lPart (some (lOp addE (lVar 4) (lVar 5)))) (lPart none))) 1)) <|
    lRet (lVar 1)
abbrev N__law_texts_right : List Str := ["_law_bag_here", "_law_delta", "_law_text", "_law_again", "_law_found", "_law_some", "_law_one_here", "_law_k"]
def t__law_texts_right_4 (ad : Ad) : LS :=
    lRet (lC (.bl true))
def t__law_texts_right_3b_0 (ad : Ad) : LS :=
    lIfS (lNot (lT (lCall (sp__law_alike ad) (lCons (lCall (sp__law_read ad) (lCons (lVar 6) (lNil))) (lCons (lCall (sp__law_reading ad) (lCons (lVar 6) (lNil))) (lNil))))))
      (lRet (lC (.bl false)))
      (lNext)
def t__law_texts_right_3 (ad : Ad) : LS :=
    lSeq (lFor (lIt (lOp addE (lVar 5) (lLst (lCons (lC (.str [])) (lCons (lC (.str [10])) (lCons (lC (.str [107, 101, 101, 112, 32, 49])) (lCons (lC (.str [112, 117, 116, 32, 49, 32, 50, 32, 10])) (lCons (lC (.str [112, 117, 116, 32, 32, 49, 10])) (lCons (lC (.str [32, 107, 101, 101, 112, 32, 49, 10])) (lCons (lC (.str [100, 114, 111, 112, 32, 49, 48, 48, 48, 48, 48, 48, 48, 48, 49, 10])) (lCons (lC (.str [112, 117, 116, 32, 57, 57, 57, 57, 57, 57, 57, 57, 57, 57, 10])) (lNil)))))))))))) (.nm 6)
      (t__law_texts_right_3b_0 ad)) <| t__law_texts_right_4 ad
def t__law_texts_right_2 (ad : Ad) : LS :=
    lSeq (lSet (lOp addE (lLc (lRng1 (lCons (lC (.int 6)) (lNil))) (.nm 7) (lYes) (lCall (sp__law_bent_k97 ad) (lCons (lVar 0) (lCons (lVar 2) (lNil)))) [7]) (lLst (lCons (lOp addE (lOp addE (lOp addE (lVar 2) (lC (.str [107, 101, 101, 112, 32]))) (lOp mulE (lC (.str [57])) (lC (.int 5000)))) (lC (.str [10]))) (lCons (lSl (lVar 2) (lPart none) (lPart (some (lNeg (lC (.int 1)))))) (lCons (lOp addE (lVar 2) (lC (.str [10]))) (lNil)))))) 5) <| t__law_texts_right_3 ad
def t__law_texts_right_1b_2 (ad : Ad) : LS :=
    lDrop (lBM "list" appendE (lOp ixA (lVar 4) (lC (.int 1))) (lCons (lTup (lCons (lC (.str [107, 101, 101, 112])) (lCons (lC (.int 4)) (lNil)))) (lNil)))
def t__law_texts_right_1b_1 (ad : Ad) : LS :=
    lSeq (lIfS (lNot (lT (lCall (sp__law_alike ad) (lCons (lLst (lCons (lCall (sp_written ad) (lCons (lVar 1) (lNil))) (lCons (lVar 4) (lNil)))) (lCons (lLst (lCons (lVar 2) (lCons (lTup (lCons (lC (.str [100, 101, 108, 116, 97])) (lCons (lVar 1) (lNil)))) (lNil)))) (lNil))))))
      (lRet (lC (.bl false)))
      (lNext)) <| t__law_texts_right_1b_2 ad
def t__law_texts_right_1b_0 (ad : Ad) : LS :=
    lSeq (lSet (lCall (sp__law_read ad) (lCons (lCall (sp_written ad) (lCons (lVar 1) (lNil))) (lNil))) 4) <| t__law_texts_right_1b_1 ad
def t__law_texts_right_1 (ad : Ad) : LS :=
    lSeq (lFor (lRng1 (lCons (lC (.int 2)) (lNil))) (.nm 3)
      (t__law_texts_right_1b_0 ad)) <| t__law_texts_right_2 ad
def t__law_texts_right_0 (ad : Ad) : LS :=
    lSeq (lSet (lCall (sp__law_lines ad) (lCons (lVar 1) (lNil))) 2) <| t__law_texts_right_1 ad
def t__law_texts_right (ad : Ad) : LS :=
    lSeq (lSet (lCall (sp__law_lines ad) (lCons (lVar 1) (lNil))) 2) <|
    lSeq (lFor (lRng1 (lCons (lC (.int 2)) (lNil))) (.nm 3)
      (lSeq (lSet (lCall (sp__law_read ad) (lCons (lCall (sp_written ad) (lCons (lVar 1) (lNil))) (lNil))) 4) <|
    lSeq (lIfS (lNot (lT (lCall (sp__law_alike ad) (lCons (lLst (lCons (lCall (sp_written ad) (lCons (lVar 1) (lNil))) (lCons (lVar 4) (lNil)))) (lCons (lLst (lCons (lVar 2) (lCons (lTup (lCons (lC (.str [100, 101, 108, 116, 97])) (lCons (lVar 1) (lNil)))) (lNil)))) (lNil))))))
      (lRet (lC (.bl false)))
      (lNext)) <|
    lDrop (lBM "list" appendE (lOp ixA (lVar 4) (lC (.int 1))) (lCons (lTup (lCons (lC (.str [107, 101, 101, 112])) (lCons (lC (.int 4)) (lNil)))) (lNil))))) <|
    lSeq (lSet (lOp addE (lLc (lRng1 (lCons (lC (.int 6)) (lNil))) (.nm 7) (lYes) (lCall (sp__law_bent_k97 ad) (lCons (lVar 0) (lCons (lVar 2) (lNil)))) [7]) (lLst (lCons (lOp addE (lOp addE (lOp addE (lVar 2) (lC (.str [107, 101, 101, 112, 32]))) (lOp mulE (lC (.str [57])) (lC (.int 5000)))) (lC (.str [10]))) (lCons (lSl (lVar 2) (lPart none) (lPart (some (lNeg (lC (.int 1)))))) (lCons (lOp addE (lVar 2) (lC (.str [10]))) (lNil)))))) 5) <|
    lSeq (lFor (lIt (lOp addE (lVar 5) (lLst (lCons (lC (.str [])) (lCons (lC (.str [10])) (lCons (lC (.str [107, 101, 101, 112, 32, 49])) (lCons (lC (.str [112, 117, 116, 32, 49, 32, 50, 32, 10])) (lCons (lC (.str [112, 117, 116, 32, 32, 49, 10])) (lCons (lC (.str [32, 107, 101, 101, 112, 32, 49, 10])) (lCons (lC (.str [100, 114, 111, 112, 32, 49, 48, 48, 48, 48, 48, 48, 48, 48, 49, 10])) (lCons (lC (.str [112, 117, 116, 32, 57, 57, 57, 57, 57, 57, 57, 57, 57, 57, 10])) (lNil)))))))))))) (.nm 6)
      (lIfS (lNot (lT (lCall (sp__law_alike ad) (lCons (lCall (sp__law_read ad) (lCons (lVar 6) (lNil))) (lCons (lCall (sp__law_reading ad) (lCons (lVar 6) (lNil))) (lNil))))))
      (lRet (lC (.bl false)))
      (lNext))) <|
    lRet (lC (.bl true))
theorem len__law_bent_k97 (ad : Ad) (evs : List EV) (h : EH) (Q : EK) (q : sp__law_bent_k97 ad evs h Q) : evs.length = ["_law_bag_here", "_law_text"].length := by
  obtain ⟨_, _, rfl, _⟩ := q; rfl
theorem len__law_texts_right (ad : Ad) (evs : List EV) (h : EH) (Q : EK) (q : sp__law_texts_right ad evs h Q) : evs.length = ["_law_bag_here", "_law_delta"].length := by
  obtain ⟨_, _, _, rfl, _⟩ := q; rfl
theorem pure__law_bent_k97 (ad : Ad) (evs : List EV) (h : EH) (Q : EK) (q : sp__law_bent_k97 ad evs h Q) : t__law_bent_k97 ad (endsOf Q) (startE N__law_bent_k97 evs) h := by
  obtain ⟨b, t, rfl, tl, B, q⟩ := q
  show t__law_bent_k97_0 ad (endsOf Q) [some (.ref b), some (.str t), none, none, none, none] h
  have sz : sizeLine = 16777216 := sizeL
  unfold t__law_bent_k97_0
  rw [lSeq, lSet]
  simp only [lLst, lCons, lNil, lC]
  refine ⟨by simp [sizeL], ?_⟩
  have hb := B.lt
  obtain ⟨L, hL⟩ : ∃ L, L = someW.map EV.str := ⟨_, rfl⟩
  have hL' := hL
  simp only [someW, List.map_cons, List.map_nil] at hL'
  rw [← hL']
  have e1 : (h ++ [EO.lst L])[h.length]? = some (.lst L) := new_at
  have k1 : Keep (is1 b) h (h ++ [EO.lst L]) := Keep.app _
  have B1 := B.keep (Keep.app (b := no1) [EO.lst L])
  generalize h ++ [EO.lst L] = h1 at e1 k1 B1 ⊢
  have sb : h.length ≠ b := by omega
  generalize h.length = rs at e1 sb ⊢
  try simp only [List.set_cons_zero, List.set_cons_succ]
  unfold t__law_bent_k97_1
  try dsimp only
  rw [lSeq, lFor]
  simp only [lSet, lRet, lRetN, lDrop, lOp, lVar, lC, lB, lT, lAnd, lOr, lNot, lIf, lAndV, lOrV, lNotV, lNil, lCons, lTup, lLst, lCB, lBM, lSl, lPart, lNext, lIt, lRng1, lRng2, lAsg, lPar, lSetI, lSetA, lAugS, lLc, lZip, lNeg, lCall, lChain, List.getElem?_cons_zero, List.getElem?_cons_succ, List.set_cons_zero, List.set_cons_succ, wipeE, intP, intE, lCall]
  refine take_n 2 B1 rfl (by decide) (by decide) fun c h2 hc k2 B2 => ?_
  simp only [addE]
  refine ⟨⟨by omega, by omega⟩, ?_⟩
  rw [show ((1 : Int) + (c : Nat)).toNat = c + 1 by omega]
  refine loop_nat (c + 1) (fun i env h' => ∃ (t2 : List Nat) (x3 x4 x5 : Option EV), env = [some (.ref b), some (.str t2), some (.ref rs), x3, x4, x5] ∧ BentOf i t t2 ∧ Keep (is1 b) h h' ∧ BagAt h' b ∧ h'[rs]? = some (.lst L)) ?_ ?_ _ _ ⟨t, none, none, none, rfl, ⟨by omega, by omega, by omega⟩, k1.trans k2, B2, k2.other e1 sb⟩
  · rintro env h' ⟨t2, x3, x4, x5, rfl, bo, kk, B', _⟩
    refine ⟨trivial, ?_⟩
    unfold t__law_bent_k97_2
    simp only [lRet, lSet, lRet, lRetN, lDrop, lOp, lVar, lC, lB, lT, lAnd, lOr, lNot, lIf, lAndV, lOrV, lNotV, lNil, lCons, lTup, lLst, lCB, lBM, lSl, lPart, lNext, lIt, lRng1, lRng2, lAsg, lPar, lSetI, lSetA, lAugS, lLc, lZip, lNeg, lCall, lChain, List.getElem?_cons_zero, List.getElem?_cons_succ, List.set_cons_zero, List.set_cons_succ, wipeE, intP, intE]
    exact q t2 h' ⟨by have := bo.ln; omega, by have := bo.c32; omega, by have := bo.c10; omega⟩ kk B'
  · rintro i env h' kk' hi ⟨t2, x3, x4, x5, rfl, bo, kk, B', es⟩ hk
    refine ⟨trivial, bind_nm ?_⟩
    simp only [List.set_cons_zero, List.set_cons_succ]
    have bl := bo.ln
    unfold t__law_bent_k97_1b_0
    rw [lSeq, lPar]
    simp only [lSet, lRet, lRetN, lDrop, lOp, lVar, lC, lB, lT, lAnd, lOr, lNot, lIf, lAndV, lOrV, lNotV, lNil, lCons, lTup, lLst, lCB, lBM, lSl, lPart, lNext, lIt, lRng1, lRng2, lAsg, lPar, lSetI, lSetA, lAugS, lLc, lZip, lNeg, lCall, lChain, List.getElem?_cons_zero, List.getElem?_cons_succ, List.set_cons_zero, List.set_cons_succ, wipeE, intP, intE, lCall, lenE, addE]
    refine ⟨by omega, take_n (m := (t2.length : Int) + 1) (t2.length + 1) B' (by omega) (by omega) (by omega) fun a h3 ha k3 B3 => ?_⟩
    refine take_n 3 B3 rfl (by decide) (by decide) fun g h4 hg k4 B4 => ?_
    try simp only [List.set_cons_zero, List.set_cons_succ]
    unfold t__law_bent_k97_1b_1
    simp only [lSet, lSet, lRet, lRetN, lDrop, lOp, lVar, lC, lB, lT, lAnd, lOr, lNot, lIf, lAndV, lOrV, lNotV, lNil, lCons, lTup, lLst, lCB, lBM, lSl, lPart, lNext, lIt, lRng1, lRng2, lAsg, lPar, lSetI, lSetA, lAugS, lLc, lZip, lNeg, lCall, lChain, List.getElem?_cons_zero, List.getElem?_cons_succ, List.set_cons_zero, List.set_cons_succ, wipeE, intP, intE, lCall]
    refine sl_s (by omega) ?_
    rw [cut_to]
    have k34 := k3.trans k4
    have e4 := k34.other es sb
    refine ⟨b, rs, L, rfl, e4, by rw [hL]; simp [someW], by rw [hL]; simp [someW, sizeL], sb, B4, fun v h5 hv k5 B5 => ?_⟩
    rw [hL] at hv
    obtain ⟨w, hw, rfl⟩ := List.mem_map.mp hv
    have wl := (someW_ok w hw).1
    refine add_s (by rw [List.length_take]; omega) ?_
    simp only [addE]
    rw [show ((a : Nat) : Int) + (g : Nat) = ((a + g : Nat) : Int) by omega]
    refine sl_s (by omega) ?_
    rw [cut_from]
    refine ⟨by rw [List.length_append, List.length_take, List.length_drop]; omega, ?_⟩
    exact hk _ _ ⟨_, _, _, _, rfl, bo.step hw a g, (kk.trans k34).trans k5, B5, k5.other e4 sb⟩
def fixW : List (List Nat) := [[], [10], [107, 101, 101, 112, 32, 49], [112, 117, 116, 32, 49, 32, 50, 32, 10], [112, 117, 116, 32, 32, 49, 10], [32, 107, 101, 101, 112, 32, 49, 10], [100, 114, 111, 112, 32, 49, 48, 48, 48, 48, 48, 48, 48, 48, 49, 10], [112, 117, 116, 32, 57, 57, 57, 57, 57, 57, 57, 57, 57, 57, 10]]
theorem fixW_ok : ∀ w ∈ fixW, w.length ≤ 100 ∧ w.count 32 ≤ 3 ∧ w.count 10 ≤ 1 := by decide
theorem rep_len (n : Nat) (c : Nat) : (repN (n : Int) [c]).length = n ∧ ∀ x, x ≠ c → (repN (n : Int) [c]).count x = 0 := by
  rw [repN_1]
  refine ⟨by simp, fun x hx => ?_⟩
  rw [List.count_replicate]
  have : (c == x) = false := by simp; exact fun e => hx e.symm
  simp [this]
theorem pure__law_texts_right (ad : Ad) (evs : List EV) (h : EH) (Q : EK) (q : sp__law_texts_right ad evs h Q) : t__law_texts_right ad (endsOf Q) (startE N__law_texts_right evs) h := by
  obtain ⟨b, r, D, rfl, er, ⟨zl, zp, dl, dn⟩, rb, B, q⟩ := q
  show t__law_texts_right_0 ad (endsOf Q) [some (.ref b), some (.ref r), none, none, none, none, none, none] h
  have sz : sizeLine = 16777216 := sizeL
  have zd : ∀ d ∈ D, DdOk d := fun d hd => (zl d hd).z
  have c32 := lines_c32 zd
  have c10 := lines_c10 zd
  have tl := linesS_len zl
  have tc := lines_chr (D := D)
  have rt := readT_lines zd zp
  have dsD : ∀ {g : EH} {r : Nat}, g[r]? = some (.lst (D.map Dd.e)) → DS g 10 520000 (.ref r) (.list (pds (D.map Dd.e))) := fun e => lnD_ds zl (by omega) e
  have ro : RdOk (linesS D) := ⟨by omega, by omega, by omega⟩
  unfold t__law_texts_right_0
  rw [lSeq, lSet]
  simp only [lSet, lRet, lRetN, lDrop, lOp, lVar, lC, lB, lT, lAnd, lOr, lNot, lIf, lAndV, lOrV, lNotV, lNil, lCons, lTup, lLst, lCB, lBM, lSl, lPart, lNext, lIt, lRng1, lRng2, lAsg, lPar, lSetI, lSetA, lAugS, lLc, lZip, lNeg, lCall, lChain, List.getElem?_cons_zero, List.getElem?_cons_succ, List.set_cons_zero, List.set_cons_succ, wipeE, intP, intE, lCall]
  refine ⟨r, D, rfl, er, zl, by omega, fun h1 k1 => ?_⟩
  have er1 := k1.at er
  have B1 := B.keep k1
  have writ : ∀ {g : EH} {P : EK}, g[r]? = some (.lst (D.map Dd.e)) → (∀ g', Keep no1 g g' → P (.str (linesS D)) g') → sp_written ad [.ref r] g P := fun e p => ⟨r, D, rfl, e, zl, by omega, p⟩
  generalize linesS D = t at *
  try simp only [List.set_cons_zero, List.set_cons_succ]
  unfold t__law_texts_right_1
  try dsimp only
  rw [lSeq, lFor]
  simp only [lSet, lRet, lRetN, lDrop, lOp, lVar, lC, lB, lT, lAnd, lOr, lNot, lIf, lAndV, lOrV, lNotV, lNil, lCons, lTup, lLst, lCB, lBM, lSl, lPart, lNext, lIt, lRng1, lRng2, lAsg, lPar, lSetI, lSetA, lAugS, lLc, lZip, lNeg, lCall, lChain, List.getElem?_cons_zero, List.getElem?_cons_succ, List.set_cons_zero, List.set_cons_succ, wipeE, intP, intE]
  refine ⟨⟨by decide, by decide⟩, ?_⟩
  refine loop_nat 2 (fun i env h' => ∃ (x3 x4 : Option EV), env = [some (.ref b), some (.ref r), some (.str t), x3, x4, none, none, none] ∧ Keep no1 h h') ?_ ?_ _ _ ⟨none, none, rfl, k1⟩
  · rintro env h' ⟨x3, x4, rfl, kk⟩
    refine ⟨trivial, ?_⟩
    have B' := B.keep kk
    have kb : Keep (is1 b) h h' := kk.all
    clear k1 er1 B1
    unfold t__law_texts_right_2
    try dsimp only
    rw [lSeq, lSet]
    simp only [lSet, lRet, lRetN, lDrop, lOp, lVar, lC, lB, lT, lAnd, lOr, lNot, lIf, lAndV, lOrV, lNotV, lNil, lCons, lTup, lLst, lCB, lBM, lSl, lPart, lNext, lIt, lRng1, lRng2, lAsg, lPar, lSetI, lSetA, lAugS, lLc, lZip, lNeg, lCall, lChain, List.getElem?_cons_zero, List.getElem?_cons_succ, List.set_cons_zero, List.set_cons_succ, wipeE, intP, intE]
    refine ⟨⟨by decide, by decide⟩, ?_⟩
    refine lc_bag (V := fun v => ∃ t2, BentOf 2 t t2 ∧ v = .str t2) (b := b) _ B' (by simp [rangeL]) (fun _ _ => trivial) (fun x hx h10 ky k10 B10 hy => bind_nm ?_) fun us h5 nu su k5 B5 e5 => ?_
    · simp only [List.set_cons_zero, List.set_cons_succ, wipeE, lCall, lCons, lNil, lVar, List.getElem?_cons_zero, List.getElem?_cons_succ]
      exact ⟨b, t, rfl, by omega, B10, fun t2 h11 bo k11 B11 => hy _ _ ⟨t2, bo, rfl⟩ k11 B11⟩
    simp only [addE, mulE]
    refine ⟨by simp; omega, ?_⟩
    have rl := rep_len 5000 57
    rw [show (5000 : Int) = ((5000 : Nat) : Int) from rfl]
    refine ⟨⟨by decide, by decide, by decide⟩, ?_⟩
    generalize repN ((5000 : Nat) : Int) [57] = nines at rl ⊢
    refine ⟨by rw [List.length_append, rl.1]; simp; omega, ?_⟩
    refine ⟨by rw [List.length_append, List.length_append, rl.1]; simp; omega, ?_⟩
    refine sl_s (by omega) ?_
    rw [cut_initD]
    refine ⟨by simp; omega, ?_⟩
    refine ⟨by simp [sizeL], ?_⟩
    simp only [app_at e5 _, new_at]
    refine ⟨by rw [nu]; simp [rangeL, sizeL], ?_⟩
    have kx : Keep no1 h5 (h5 ++ [EO.lst [EV.str (t ++ [107, 101, 101, 112, 32] ++ nines ++ [10]), EV.str t.dropLast, EV.str (t ++ [10])]] ++ [EO.lst (us ++ [EV.str (t ++ [107, 101, 101, 112, 32] ++ nines ++ [10]), EV.str t.dropLast, EV.str (t ++ [10])])]) := (Keep.app _).trans (Keep.app _)
    have ex : (h5 ++ [EO.lst [EV.str (t ++ [107, 101, 101, 112, 32] ++ nines ++ [10]), EV.str t.dropLast, EV.str (t ++ [10])]] ++ [EO.lst (us ++ [EV.str (t ++ [107, 101, 101, 112, 32] ++ nines ++ [10]), EV.str t.dropLast, EV.str (t ++ [10])])])[(h5 ++ [EO.lst [EV.str (t ++ [107, 101, 101, 112, 32] ++ nines ++ [10]), EV.str t.dropLast, EV.str (t ++ [10])]]).length]? = some (.lst (us ++ [EV.str (t ++ [107, 101, 101, 112, 32] ++ nines ++ [10]), EV.str t.dropLast, EV.str (t ++ [10])])) := new_at
    have B6 := B5.keep kx
    have k6 : Keep (is1 b) h (h5 ++ [EO.lst [EV.str (t ++ [107, 101, 101, 112, 32] ++ nines ++ [10]), EV.str t.dropLast, EV.str (t ++ [10])]] ++ [EO.lst (us ++ [EV.str (t ++ [107, 101, 101, 112, 32] ++ nines ++ [10]), EV.str t.dropLast, EV.str (t ++ [10])])]) := (kb.trans k5).trans kx.all
    -- all of them are short
    have allU : ∀ v ∈ us ++ [EV.str (t ++ [107, 101, 101, 112, 32] ++ nines ++ [10]), EV.str t.dropLast, EV.str (t ++ [10])], ∃ u, v = .str u ∧ RdOk u := by
      intro v hv
      rcases List.mem_append.mp hv with hv | hv
      · obtain ⟨t2, bo, rfl⟩ := su v hv
        exact ⟨t2, rfl, ⟨by have := bo.ln; omega, by have := bo.c32; omega, by have := bo.c10; omega⟩⟩
      · simp only [List.mem_cons, List.not_mem_nil, or_false] at hv
        rcases hv with rfl | rfl | rfl
        · refine ⟨_, rfl, ⟨?_, ?_, ?_⟩⟩
          · simp only [List.length_append, rl.1, List.length_cons, List.length_nil]; omega
          · simp only [List.count_append, rl.2 32 (by decide)]
            have : ([107, 101, 101, 112, 32] : List Nat).count 32 = 1 := by decide
            have : ([10] : List Nat).count 32 = 0 := by decide
            omega
          · simp only [List.count_append, rl.2 10 (by decide)]
            have : ([107, 101, 101, 112, 32] : List Nat).count 10 = 0 := by decide
            have : ([10] : List Nat).count 10 = 1 := by decide
            omega
        · have s := List.dropLast_sublist t
          refine ⟨_, rfl, ⟨by have := s.length_le; omega, by have := s.count_le 32; omega, by have := s.count_le 10; omega⟩⟩
        · refine ⟨_, rfl, ⟨by simp; omega, ?_, ?_⟩⟩
          · rw [List.count_append]
            have : ([10] : List Nat).count 32 = 0 := by decide
            omega
          · rw [List.count_append]
            have : ([10] : List Nat).count 10 = 1 := by decide
            omega
    have lu : (us ++ [EV.str (t ++ [107, 101, 101, 112, 32] ++ nines ++ [10]), EV.str t.dropLast, EV.str (t ++ [10])]).length = 9 := by rw [List.length_append, nu]; simp [rangeL]
    generalize us ++ [EV.str (t ++ [107, 101, 101, 112, 32] ++ nines ++ [10]), EV.str t.dropLast, EV.str (t ++ [10])] = ws at ex B6 k6 allU lu kx ⊢
    generalize (h5 ++ [EO.lst [EV.str (t ++ [107, 101, 101, 112, 32] ++ nines ++ [10]), EV.str t.dropLast, EV.str (t ++ [10])]]).length = rw5 at ex ⊢
    generalize h5 ++ [EO.lst [EV.str (t ++ [107, 101, 101, 112, 32] ++ nines ++ [10]), EV.str t.dropLast, EV.str (t ++ [10])]] ++ [EO.lst ws] = h6 at ex B6 k6 kx ⊢
    try simp only [List.set_cons_zero, List.set_cons_succ]
    unfold t__law_texts_right_3
    try dsimp only
    obtain ⟨L, hL⟩ : ∃ L, L = fixW.map EV.str := ⟨_, rfl⟩
    have hL' := hL
    simp only [fixW, List.map_cons, List.map_nil] at hL'
    rw [lSeq, lFor]
    simp only [lSet, lRet, lRetN, lDrop, lOp, lVar, lC, lB, lT, lAnd, lOr, lNot, lIf, lAndV, lOrV, lNotV, lNil, lCons, lTup, lLst, lCB, lBM, lSl, lPart, lNext, lIt, lRng1, lRng2, lAsg, lPar, lSetI, lSetA, lAugS, lLc, lZip, lNeg, lCall, lChain, List.getElem?_cons_zero, List.getElem?_cons_succ, List.set_cons_zero, List.set_cons_succ, wipeE, intP, intE]
    rw [← hL']
    have ll : L.length = 8 := by rw [hL]; rfl
    refine ⟨by omega, ?_⟩
    try simp only [addE, app_at ex _, new_at]
    refine ⟨by omega, ?_⟩
    have e7 : (h6 ++ [EO.lst L] ++ [EO.lst (ws ++ L)])[(h6 ++ [EO.lst L]).length]? = some (.lst (ws ++ L)) := new_at
    have k7 : Keep no1 h6 (h6 ++ [EO.lst L] ++ [EO.lst (ws ++ L)]) := (Keep.app _).trans (Keep.app _)
    have B7 := B6.keep k7
    have k07 := k6.trans k7.all
    have allV : ∀ v ∈ ws ++ L, ∃ u, v = .str u ∧ RdOk u := by
      intro v hv
      rcases List.mem_append.mp hv with hv | hv
      · exact allU v hv
      · rw [hL] at hv
        obtain ⟨u, hu, rfl⟩ := List.mem_map.mp hv
        have o := fixW_ok u hu
        exact ⟨u, rfl, ⟨by omega, by omega, by omega⟩⟩
    generalize (h6 ++ [EO.lst L]).length = r7 at e7 ⊢
    generalize h6 ++ [EO.lst L] ++ [EO.lst (ws ++ L)] = h7 at e7 k7 B7 k07 ⊢
    try simp only [srcE, e7]
    refine loop_ind (fun left env h' => ∃ x6 : Option EV, env = [some (.ref b), some (.ref r), some (.str t), x3, x4, some (.ref rw5), x6, none] ∧ Keep no1 h7 h' ∧ ∀ y ∈ left, y ∈ ws ++ L) ?_ ?_ _ _ _ ⟨_, rfl, .refl, fun y hy => hy⟩
    · rintro env h' ⟨x6, rfl, k', _⟩
      refine ⟨k'.at e7, ?_⟩
      unfold t__law_texts_right_4
      simp only [lRet, lC]
      exact q _ (k07.trans k'.all) (B7.keep k')
    · rintro y left env h' kk2 ⟨x6, rfl, k', sub⟩ hkk
      refine ⟨k'.at e7, bind_nm ?_⟩
      simp only [List.set_cons_zero, List.set_cons_succ]
      obtain ⟨u, rfl, uo⟩ := allV y (sub y (by simp))
      unfold t__law_texts_right_3b_0
      rw [lIfS]
      simp only [lNot, lT, lCall, lCons, lNil, lVar, List.getElem?_cons_zero, List.getElem?_cons_succ]
      refine ⟨u, rfl, uo.lnT, rg_any fun v h8 k8 v8 => ?_⟩
      refine ⟨u, rfl, uo.lnT, rg_any fun w h9 k9 w9 => ?_⟩
      refine alike_ok (n := 12) (k := 530000) ((v8.keep k9).ds uo) (w9.ds uo) (by decide) (by decide) ?_
      simp only [truE, Bool.not_true, Bool.false_eq_true, if_false]
      try refine next_go ?_
      exact hkk _ _ ⟨_, rfl, (k'.trans k8).trans k9, fun y hy => sub y (by simp [hy])⟩
  · rintro i env h' kk' hi ⟨x3, x4, rfl, kk⟩ hk
    refine ⟨trivial, bind_nm ?_⟩
    simp only [List.set_cons_zero, List.set_cons_succ]
    unfold t__law_texts_right_1b_0
    rw [lSeq, lSet]
    simp only [lSet, lRet, lRetN, lDrop, lOp, lVar, lC, lB, lT, lAnd, lOr, lNot, lIf, lAndV, lOrV, lNotV, lNil, lCons, lTup, lLst, lCB, lBM, lSl, lPart, lNext, lIt, lRng1, lRng2, lAsg, lPar, lSetI, lSetA, lAugS, lLc, lZip, lNeg, lCall, lChain, List.getElem?_cons_zero, List.getElem?_cons_succ, List.set_cons_zero, List.set_cons_succ, wipeE, intP, intE, lCall]
    refine writ (kk.at er) fun h2 k2 => ?_
    refine ⟨t, rfl, ro.lnT, rg_any fun v h3 k3 v3 => ?_⟩
    unfold RdV at v3
    rw [rt] at v3
    obtain ⟨r3, rfl, l3, e3⟩ := v3
    try simp only [List.set_cons_zero, List.set_cons_succ]
    unfold t__law_texts_right_1b_1
    try dsimp only
    rw [lSeq, lIfS]
    simp only [lSet, lRet, lRetN, lDrop, lOp, lVar, lC, lB, lT, lAnd, lOr, lNot, lIf, lAndV, lOrV, lNotV, lNil, lCons, lTup, lLst, lCB, lBM, lSl, lPart, lNext, lIt, lRng1, lRng2, lAsg, lPar, lSetI, lSetA, lAugS, lLc, lZip, lNeg, lCall, lChain, List.getElem?_cons_zero, List.getElem?_cons_succ, List.set_cons_zero, List.set_cons_succ, wipeE, intP, intE, lNot, lT, lCall]
    have k13 := (kk.trans k2).trans k3
    refine writ (k13.at er) fun h4 k4 => ?_
    refine ⟨by simp [sizeL], ?_⟩
    refine ⟨by simp [sizeL], by simp [sizeL], ?_⟩
    have k14 := k13.trans k4
    have k5 : Keep no1 h4 (h4 ++ [EO.lst [EV.str t, .tup [.str wDlt, .ref r3]]] ++ [EO.lst [EV.str t, .tup [.str wDlt, .ref r]]]) := (Keep.app _).trans (Keep.app _)
    have dL : ∀ {g : EH} {q r : Nat}, g[q]? = some (.lst [EV.str t, .tup [.str wDlt, .ref r]]) → g[r]? = some (.lst (D.map Dd.e)) → DS g 12 600000 (.ref q) (.list [.str (S t), .tuple [.str (S wDlt), .list (pds (D.map Dd.e))]]) := fun {g q r} e e' => by
      have ds := dsD e'
      exact DS.more (DS.lst e (DSs.cons (DS.str (k := 50000) tc (by omega)) (DSs.cons (DS.tup (DSs.cons (DS.str (k := 10) (by decide) (by decide)) (DSs.cons ds (DSs.nil (k := 0))))) (DSs.nil (k := 0))))) (by decide)
    refine alike_ok (n := 12) (k := 600000) (dL (app_at new_at _) ((k4.trans k5).at e3)) (dL new_at ((k14.trans k5).at er)) (by decide) (by decide) ?_
    simp only [truE, Bool.not_true, Bool.false_eq_true, if_false]
    try refine next_go ?_
    unfold t__law_texts_right_1b_2
    rw [lDrop]
    simp only [lSet, lRet, lRetN, lDrop, lOp, lVar, lC, lB, lT, lAnd, lOr, lNot, lIf, lAndV, lOrV, lNotV, lNil, lCons, lTup, lLst, lCB, lBM, lSl, lPart, lNext, lIt, lRng1, lRng2, lAsg, lPar, lSetI, lSetA, lAugS, lLc, lZip, lNeg, lCall, lChain, List.getElem?_cons_zero, List.getElem?_cons_succ, List.set_cons_zero, List.set_cons_succ, wipeE, intP, intE]
    have e6 := (k4.trans k5).at e3
    have l6 : h.length ≤ r3 := by have := kk.1; have := k2.1; omega
    refine ia_t (x := .ref r3) rfl ⟨isTy_l e6, by simp [sizeL], app_f e6 (by rw [List.length_map]; omega) ?_⟩
    exact hk _ _ ⟨_, _, rfl, (k14.trans k5).fresh l6⟩
end Y

namespace Y
open PySem PySem.Spec PyProof.Rows L2

theorem push_app (D : Delta) (e : Dd) (r : Delta) (u : Un) : push (D ++ e :: r) u = D ++ push (e :: r) u := by
  induction D with
  | nil => rfl
  | cons d D ih =>
    cases D with
    | nil => rfl
    | cons f D => rw [List.cons_append, List.cons_append, push, ← List.cons_append, ih]; rfl
theorem fold_app (D : Delta) : ∀ (vs : List Un) (e : Dd) (r : Delta), vs.foldl push (D ++ e :: r) = D ++ vs.foldl push (e :: r)
  | [], e, r => rfl
  | v :: vs, e, r => by
    rw [List.foldl_cons, List.foldl_cons, push_app]
    cases h : push (e :: r) v with
    | nil => exact absurd h (push_ne _ _)
    | cons e' r' => exact fold_app D vs e' r'
theorem lastD_snoc (D : Delta) (x : Dd) : lastD (D ++ [x]) = [x] := by
  unfold lastD
  rw [List.length_append, List.length_singleton, Nat.add_sub_cancel, List.drop_left]
theorem lastD_app (D : Delta) {E : Delta} (h : E ≠ []) : lastD (D ++ E) = lastD E := by
  rcases List.eq_nil_or_concat E with e | ⟨E', x, e⟩
  · exact absurd e h
  · rw [e, List.concat_eq_append, ← List.append_assoc, lastD_snoc, lastD_snoc]
theorem say_parts (us vs : List Un) : ∃ E, packed (unitsD (lastD (packed us)) ++ vs) = E ∧ packed (us ++ vs) = (packed us).dropLast ++ E ∧ lastD E = lastD (packed (us ++ vs)) ∧ E.dropLast = (packed (us ++ vs)).dropLast.drop (packed us).dropLast.length := by
  refine ⟨_, rfl, ?_⟩
  rcases List.eq_nil_or_concat (packed us) with e | ⟨D, x, e⟩
  · have hu : us = [] := by rw [← packed_units us, e]; rfl
    rw [e, hu]
    exact ⟨rfl, rfl, rfl⟩
  · rw [List.concat_eq_append] at e
    have px : Proper [x] := by
      have := packed_proper us
      rw [e] at this
      exact this.all x (by simp)
    have e2 : packed (us ++ vs) = D ++ packed (x.units ++ vs) := by
      unfold packed
      rw [List.foldl_append, List.foldl_append]
      have h1 : us.foldl push [] = D ++ [x] := e
      have h2 : x.units.foldl push [] = [x] := by
        have := packed_id px
        rwa [show unitsD [x] = x.units by simp [unitsD]] at this
      rw [h1, h2, fold_app]
    rw [e, lastD_snoc, List.dropLast_concat, e2]
    have ux : unitsD [x] = x.units := by simp [unitsD]
    rw [ux]
    have ne : packed (x.units ++ vs) ≠ [] := by
      intro z
      have := packed_units (x.units ++ vs)
      rw [z] at this
      have := congrArg List.length this
      rw [List.length_append] at this
      have := units_pos px
      simp [unitsD] at *
      omega
    refine ⟨rfl, (lastD_app D ne).symm, ?_⟩
    rw [List.dropLast_append_of_ne_nil ne, List.drop_left]
theorem lastD_le (D : Delta) : (lastD D).length ≤ 1 ∧ ∀ d ∈ lastD D, d ∈ D := ⟨by unfold lastD; rw [List.length_drop]; omega, fun d h => List.mem_of_mem_drop h⟩
theorem lastD_units (us : List Un) : (unitsD (lastD (packed us))).length ≤ us.length ∧ ∀ u ∈ unitsD (lastD (packed us)), u ∈ us := by
  have e := unitsD_app ((packed us).take ((packed us).length - 1)) ((packed us).drop ((packed us).length - 1))
  rw [List.take_append_drop, packed_units] at e
  unfold lastD
  constructor
  · have := congrArg List.length e
    rw [List.length_append] at this
    omega
  · intro u hu
    rw [e]
    exact List.mem_append_right _ hu
theorem WrAt.other {ad : Ad} {h h' : EH} {w b : Nat} {L : Delta} (z : WrAt ad h w L) (B : BagAt h b) (hl : L.length ≤ 1) (k : Keep (is1 b) h h') : WrAt ad h' w L := by
  obtain ⟨r, l0, e1, e2⟩ := z
  obtain ⟨c, x, y, zz, ns, eb, _⟩ := B
  refine ⟨r, l0, k.other e1 ?_, k.other e2 ?_⟩
  · rintro rfl
    rw [e1] at eb; cases eb
  · rintro rfl
    rw [e2] at eb
    have := congrArg List.length (EO.lst.inj (Option.some.inj eb))
    rw [List.length_map] at this
    simp at this
    omega
theorem BagAt.keepW {h h' : EH} {b : Nat} {s : Nat → Prop} (B : BagAt h b) (k : Keep s h h') (n : ∀ r, r ≤ b → ¬ s r) : BagAt h' b := by
  obtain ⟨c, x, y, z, ns, e1, e2, l, r⟩ := B
  exact ⟨c, x, y, z, ns, k.2 _ _ e1 (n _ (Nat.le_refl _)), k.2 _ _ e2 (n _ (Nat.le_of_lt l)), l, r⟩
def is2W (b w : Nat) : Nat → Prop := fun r => r = b ∨ r = w
structure UnOk (us : List Un) : Prop where
  ln : us.length ≤ 30
  lt : LetU us
theorem UnOk.sub {us vs : List Un} (z : UnOk us) (s : ∀ u ∈ vs, u ∈ us) (l : vs.length ≤ us.length) : UnOk vs := ⟨Nat.le_trans l z.ln, fun x hx => z.lt x (s _ hx)⟩
def sp__law_say_right (ad : Ad) : LSp := fun evs h Q => ∃ (b w u A a n : Nat) (us : List Un) (ns : List Int), evs = [.ref b, .ref w, .ref u, .int a, .int ((a : Int) + (n : Nat)), .ref A] ∧ BagAt h b ∧ b < w ∧ h[u]? = some (.lst (us.map Un.e)) ∧ u ≠ b ∧ u ≠ w ∧ UnOk us ∧ a + n ≤ us.length ∧
  h[A]? = some (.lst (ns.map EV.int)) ∧ ns ≠ [] ∧ ns.length ≤ 4 ∧ A ≠ b ∧ WrAt ad h w (lastD (packed (us.take a))) ∧ ∀ h', Keep (is2W b w) h h' → BagAt h' b → WrAt ad h' w (lastD (packed (us.take (a + n)))) → Q (.bl true) h'
abbrev N__law_say_right : List Str := ["_law_bag_here", "_law_writer", "_law_units", "_law_at", "_law_end", "_law_letters", "_law_part", "_law_steps", "_law_text", "_law_wrong", "_law_less", "_law_spots", "_law_elder", "_law_newer", "_law_unit", "_law_index"]
def t__law_say_right_5 (ad : Ad) : LS :=
    lRet (lCall (sp__law_alike ad) (lCons (lCall (sp__law_said ad) (lCons (lVar 1) (lCons (lVar 7) (lCons (lVar 8) (lNil))))) (lCons (lTup (lCons (lC (.str [108, 105, 110, 101, 115])) (lCons (lCall (sp__law_lines ad) (lCons (lSl (lVar 13) (lPart (some (lCB lenE (lCons (lVar 12) (lNil))))) (lPart none)) (lNil))) (lNil)))) (lNil))))
def t__law_say_right_4 (ad : Ad) : LS :=
    lSeq (lPar 12 13 (lCons (lSl (lCall (sp__law_packed ad) (lCons (lSl (lVar 2) (lPart none) (lPart (some (lVar 3)))) (lNil))) (lPart none) (lPart (some (lNeg (lC (.int 1)))))) (lCons (lSl (lCall (sp__law_packed ad) (lCons (lSl (lVar 2) (lPart none) (lPart (some (lVar 4)))) (lNil))) (lPart none) (lPart (some (lNeg (lC (.int 1)))))) (lNil)))) <| t__law_say_right_5 ad
def t__law_say_right_3 (ad : Ad) : LS :=
    lSeq (lIfS (lAnd (lB (lOp (eqE true) (lVar 8) (lTup (lNil)))) (lB (lOp (eqE false) (lCall (sp__law_take ad) (lCons (lVar 0) (lCons (lC (.int 2)) (lNil)))) (lC (.int 0)))))
      (lSeq (lSet (lCall (sp__law_take ad) (lCons (lVar 0) (lCons (lCB lenE (lCons (lVar 8) (lNil))) (lNil)))) 10) <|
    lSeq (lSet (lLc (lRng1 (lCons (lCB lenE (lCons (lVar 7) (lNil))) (lNil))) (.nm 15) (lB (lOp (eqE false) (lOp ixA (lVar 7) (lVar 15)) (lC (.str [112])))) (lVar 15) [15]) 11) <|
    lIfS (lNot (lT (lCall (sp__law_alike ad) (lCons (lCall (sp__law_said ad) (lCons (lVar 1) (lCons (lVar 7) (lCons (lSl (lVar 8) (lPart none) (lPart (some (lVar 10)))) (lNil))))) (lCons (lTup (lCons (lC (.str [78, 111, 116, 65, 83, 99, 114, 105, 112, 116])) (lCons (lOp ixA (lVar 11) (lVar 10)) (lNil)))) (lNil))))))
      (lRet (lC (.bl false)))
      (lNext))
      (lNext)) <| t__law_say_right_4 ad
def t__law_say_right_2 (ad : Ad) : LS :=
    lSeq (lIfS (lB (lOp (eqE false) (lCall (sp__law_take ad) (lCons (lVar 0) (lCons (lC (.int 3)) (lNil)))) (lC (.int 0))))
      (lSeq (lSet (lOp addE (lVar 8) (lCall (sp__law_full ad) (lCons (lVar 0) (lCons (lVar 5) (lCons (lOp addE (lC (.int 1)) (lCall (sp__law_take ad) (lCons (lVar 0) (lCons (lC (.int 2)) (lNil))))) (lNil)))))) 9) <|
    lIfS (lNot (lT (lCall (sp__law_alike ad) (lCons (lCall (sp__law_said ad) (lCons (lVar 1) (lCons (lVar 7) (lCons (lVar 9) (lNil))))) (lCons (lTup (lCons (lC (.str [78, 111, 116, 65, 83, 99, 114, 105, 112, 116])) (lCons (lCB lenE (lCons (lVar 7) (lNil))) (lNil)))) (lNil))))))
      (lRet (lC (.bl false)))
      (lNext))
      (lNext)) <| t__law_say_right_3 ad
def t__law_say_right_1 (ad : Ad) : LS :=
    lSeq (lAsg (lTup (lCons (lBM "str" joinE (lC (.str [])) (lCons (lLc (lIt (lVar 6)) (.nm 14) (lYes) (lOp ixA (lVar 14) (lC (.int 0))) [14]) (lNil))) (lCons (lCB tupleOf (lCons (lLc (lIt (lVar 6)) (.nm 14) (lB (lOp (eqE false) (lOp ixA (lVar 14) (lC (.int 0))) (lC (.str [112])))) (lOp ixA (lVar 14) (lC (.int 1))) [14]) (lNil))) (lNil)))) (.tp [.nm 7, .nm 8])) <| t__law_say_right_2 ad
def t__law_say_right_0 (ad : Ad) : LS :=
    lSeq (lSet (lSl (lVar 2) (lPart (some (lVar 3))) (lPart (some (lVar 4)))) 6) <| t__law_say_right_1 ad
def t__law_say_right (ad : Ad) : LS :=
    lSeq (lSet (lSl (lVar 2) (lPart (some (lVar 3))) (lPart (some (lVar 4)))) 6) <|
    lSeq (lAsg (lTup (lCons (lBM "str" joinE (lC (.str [])) (lCons (lLc (lIt (lVar 6)) (.nm 14) (lYes) (lOp ixA (lVar 14) (lC (.int 0))) [14]) (lNil))) (lCons (lCB tupleOf (lCons (lLc (lIt (lVar 6)) (.nm 14) (lB (lOp (eqE false) (lOp ixA (lVar 14) (lC (.int 0))) (lC (.str [112])))) (lOp ixA (lVar 14) (lC (.int 1))) [14]) (lNil))) (lNil)))) (.tp [.nm 7, .nm 8])) <|
    lSeq (lIfS (lB (lOp (eqE false) (lCall (sp__law_take ad) (lCons (lVar 0) (lCons (lC (.int 3)) (lNil)))) (lC (.int 0))))
      (lSeq (lSet (lOp addE (lVar 8) (lCall (sp__law_full ad) (lCons (lVar 0) (lCons (lVar 5) (lCons (lOp addE (lC (.int 1)) (lCall (sp__law_take ad) (lCons (lVar 0) (lCons (lC (.int 2)) (lNil))))) (lNil)))))) 9) <|
    lIfS (lNot (lT (lCall (sp__law_alike ad) (lCons (lCall (sp__law_said ad) (lCons (lVar 1) (lCons (lVar 7) (lCons (lVar 9) (lNil))))) (lCons (lTup (lCons (lC (.str [78, 111, 116, 65, 83, 99, 114, 105, 112, 116])) (lCons (lCB lenE (lCons (lVar 7) (lNil))) (lNil)))) (lNil))))))
      (lRet (lC (.bl false)))
      (lNext))
      (lNext)) <|
    lSeq (lIfS (lAnd (lB (lOp (eqE true) (lVar 8) (lTup (lNil)))) (lB (lOp (eqE false) (lCall (sp__law_take ad) (lCons (lVar 0) (lCons (lC (.int 2)) (lNil)))) (lC (.int 0)))))
      (lSeq (lSet (lCall (sp__law_take ad) (lCons (lVar 0) (lCons (lCB lenE (lCons (lVar 8) (lNil))) (lNil)))) 10) <|
    lSeq (lSet (lLc (lRng1 (lCons (lCB lenE (lCons (lVar 7) (lNil))) (lNil))) (.nm 15) (lB (lOp (eqE false) (lOp ixA (lVar 7) (lVar 15)) (lC (.str [112])))) (lVar 15) [15]) 11) <|
    lIfS (lNot (lT (lCall (sp__law_alike ad) (lCons (lCall (sp__law_said ad) (lCons (lVar 1) (lCons (lVar 7) (lCons (lSl (lVar 8) (lPart none) (lPart (some (lVar 10)))) (lNil))))) (lCons (lTup (lCons (lC (.str [78, 111, 116, 65, 83, 99, 114, 105, 112, 116])) (lCons (lOp ixA (lVar 11) (lVar 10)) (lNil)))) (lNil))))))
      (lRet (lC (.bl false)))
      (lNext))
      (lNext)) <|
    lSeq (lPar 12 13 (lCons (lSl (lCall (sp__law_packed ad) (lCons (lSl (lVar 2) (lPart none) (lPart (some (lVar 3)))) (lNil))) (lPart none) (lPart (some (lNeg (lC (.int 1)))))) (lCons (lSl (lCall (sp__law_packed ad) (lCons (lSl (lVar 2) (lPart none) (lPart (some (lVar 4)))) (lNil))) (lPart none) (lPart (some (lNeg (lC (.int 1)))))) (lNil)))) <|
    lRet (lCall (sp__law_alike ad) (lCons (lCall (sp__law_said ad) (lCons (lVar 1) (lCons (lVar 7) (lCons (lVar 8) (lNil))))) (lCons (lTup (lCons (lC (.str [108, 105, 110, 101, 115])) (lCons (lCall (sp__law_lines ad) (lCons (lSl (lVar 13) (lPart (some (lCB lenE (lCons (lVar 12) (lNil))))) (lPart none)) (lNil))) (lNil)))) (lNil))))
theorem len__law_say_right (ad : Ad) (evs : List EV) (h : EH) (Q : EK) (q : sp__law_say_right ad evs h Q) : evs.length = ["_law_bag_here", "_law_writer", "_law_units", "_law_at", "_law_end", "_law_letters"].length := by
  obtain ⟨_, _, _, _, _, _, _, _, rfl, _⟩ := q; rfl
theorem un_1 (x : Int) {h : EH} {P : EK} (p : P (.int x) h) : ixA (Un.p x).e (.int 1) h P := ia_t (by rfl) p
theorem fm_chr (us : List Un) : (us.filterMap fun u => some (EV.str [u.chr])) = (us.map fun u => [u.chr]).map EV.str := by
  induction us with
  | nil => rfl
  | cons c w ih => rw [List.filterMap_cons]; exact congrArg (List.cons _) ih
theorem fm_put (us : List Un) : (us.filterMap fun u => match u with | .p x => some (EV.int x) | _ => none) = (putsU us).map EV.int := by
  induction us with
  | nil => rfl
  | cons c w ih =>
    cases c with
    | k => rw [List.filterMap_cons]; exact ih
    | d => rw [List.filterMap_cons]; exact ih
    | p x => rw [List.filterMap_cons]; exact congrArg (List.cons _) ih
theorem ds_no {h : EH} {k : Nat} (hk : k ≤ 100000) : DS h 3 100 (.tup [.str wNaS, .int k]) (.tuple [.str (S wNaS), .int k]) :=
  DS.more (DS.tup (DSs.cons (DS.str (k := 20) (by decide) (by decide)) (DSs.cons (DS.int (by omega) (Nat.le_refl _)) (DSs.nil (k := 0))))) (by decide)
theorem putsU_take (us : List Un) : (putsU us).length ≤ us.length := List.length_filterMap_le _ _
theorem pure__law_say_right (ad : Ad) (evs : List EV) (h : EH) (Q : EK) (q : sp__law_say_right ad evs h Q) : t__law_say_right ad (endsOf Q) (startE N__law_say_right evs) h := by
  obtain ⟨b, w, u, A, a, n, us, ns, rfl, B, bw, eu, ub, uw, uo, an, eA, ns0, nsl, Ab, wr, q⟩ := q
  show t__law_say_right_0 ad (endsOf Q) [some (.ref b), some (.ref w), some (.ref u), some (.int a), some (.int ((a : Int) + (n : Nat))), some (.ref A), none, none, none, none, none, none, none, none, none, none] h
  have sz : sizeLine = 16777216 := sizeL
  have ul := uo.ln
  unfold t__law_say_right_0
  rw [lSeq, lSet]
  simp only [lSet, lRet, lRetN, lDrop, lOp, lVar, lC, lB, lT, lAnd, lOr, lNot, lIf, lAndV, lOrV, lNotV, lNil, lCons, lTup, lLst, lCB, lBM, lSl, lPart, lNext, lIt, lRng1, lRng2, lAsg, lPar, lSetI, lSetA, lAugS, lLc, lZip, lNeg, lCall, lChain, List.getElem?_cons_zero, List.getElem?_cons_succ, List.set_cons_zero, List.set_cons_succ, wipeE, intP, intE]
  refine sl_l eu ?_
  rw [cut_mid, ← List.map_drop, ← List.map_take]
  obtain ⟨vs, hvs⟩ : ∃ vs, vs = (us.drop a).take n := ⟨_, rfl⟩
  rw [← hvs]
  have vl : vs.length ≤ 30 := by rw [hvs, List.length_take, List.length_drop]; omega
  have vm : ∀ x ∈ vs, x ∈ us := fun x hx => by rw [hvs] at hx; exact List.mem_of_mem_drop (List.mem_of_mem_take hx)
  have tk : us.take (a + n) = us.take a ++ vs := by rw [hvs, List.take_add]
  have e1 : (h ++ [EO.lst (vs.map Un.e)])[h.length]? = some (.lst (vs.map Un.e)) := new_at
  have k1 : Keep no1 h (h ++ [EO.lst (vs.map Un.e)]) := Keep.app _
  generalize h ++ [EO.lst (vs.map Un.e)] = h1 at e1 k1 ⊢
  generalize h.length = r1 at e1 ⊢
  try simp only [List.set_cons_zero, List.set_cons_succ]
  unfold t__law_say_right_1
  try dsimp only
  rw [lSeq, lAsg]
  simp only [lSet, lRet, lRetN, lDrop, lOp, lVar, lC, lB, lT, lAnd, lOr, lNot, lIf, lAndV, lOrV, lNotV, lNil, lCons, lTup, lLst, lCB, lBM, lSl, lPart, lNext, lIt, lRng1, lRng2, lAsg, lPar, lSetI, lSetA, lAugS, lLc, lZip, lNeg, lCall, lChain, List.getElem?_cons_zero, List.getElem?_cons_succ, List.set_cons_zero, List.set_cons_succ, wipeE, intP, intE, srcE, e1]
  try refine ⟨by simp [isTy], ?_⟩
  refine lc_keep (α := Un) Un.e (fun u => some (EV.str [u.chr])) vs (by omega) (fun h' k => k.at e1) (fun x hx h' ky kn k hy hn => ?_) fun h2 k2 e2 => ?_
  · refine bind_nm ?_
    simp only [List.set_cons_zero, List.set_cons_succ, lSet, lRet, lRetN, lDrop, lOp, lVar, lC, lB, lT, lAnd, lOr, lNot, lIf, lAndV, lOrV, lNotV, lNil, lCons, lTup, lLst, lCB, lBM, lSl, lPart, lNext, lIt, lRng1, lRng2, lAsg, lPar, lSetI, lSetA, lAugS, lLc, lZip, lNeg, lCall, lChain, List.getElem?_cons_zero, List.getElem?_cons_succ, List.set_cons_zero, List.set_cons_succ, wipeE, intP, intE, wipeE, lYes, if_true]
    exact un_0 x (hy _ rfl _ .refl)
  rw [fm_chr] at e2
  simp only [joinE, e2]
  have jn : ∀ l : List Un, (l.map fun u => [u.chr]).flatten = l.map Un.chr := fun l => by
    induction l with
    | nil => rfl
    | cons x l ih => simp [ih]
  have jl : ∀ l : List Un, ((l.map fun u => [u.chr]).map (·.length)).sum = l.length := fun l => by
    induction l with
    | nil => rfl
    | cons x l ih => simp only [List.map_cons, List.sum_cons, List.length_cons, List.length_nil] at ih ⊢; omega
  refine ⟨vs.map fun u => [u.chr], rfl, by rw [jl]; simp; omega, ?_⟩
  rw [join_nil, jn]
  have e12 := k2.at e1
  simp only [e12]
  refine lc_keep (α := Un) Un.e (fun u => match u with | .p x => some (EV.int x) | _ => none) vs (by omega) (fun h' k => k.at e12) (fun x hx h' ky kn k hy hn => ?_) fun h3 k3 e3 => ?_
  · refine bind_nm ?_
    simp only [List.set_cons_zero, List.set_cons_succ, lSet, lRet, lRetN, lDrop, lOp, lVar, lC, lB, lT, lAnd, lOr, lNot, lIf, lAndV, lOrV, lNotV, lNil, lCons, lTup, lLst, lCB, lBM, lSl, lPart, lNext, lIt, lRng1, lRng2, lAsg, lPar, lSetI, lSetA, lAugS, lLc, lZip, lNeg, lCall, lChain, List.getElem?_cons_zero, List.getElem?_cons_succ, List.set_cons_zero, List.set_cons_succ, wipeE, intP, intE, wipeE]
    refine un_0 x (eq_s ?_)
    cases x with
    | k =>
      rw [show (false ^^ decide ([Un.chr .k] = [112])) = false from rfl]
      simp only [truE, Bool.false_eq_true, if_false]
      exact hn rfl _ .refl
    | d =>
      rw [show (false ^^ decide ([Un.chr .d] = [112])) = false from rfl]
      simp only [truE, Bool.false_eq_true, if_false]
      exact hn rfl _ .refl
    | p x =>
      rw [show (false ^^ decide ([Un.chr (.p x)] = [112])) = true from rfl]
      simp only [truE, if_true]
      exact un_1 x (hy _ rfl _ .refl)
  rw [fm_put] at e3
  simp only [tupleOf, e3]
  refine ⟨by simp [sizeL], ?_⟩
  simp only [lBind, Pat.bind, Pat.binds, List.set_cons_zero, List.set_cons_succ]
  have pl := putsU_take vs
  have k13 : Keep no1 h h3 := (k1.trans k2).trans k3
  have B3 := B.keep k13
  have eu3 := k13.at eu
  have eA3 := k13.at eA
  have wr3 := wr.keep k13
  have hl3 : h.length ≤ h3.length := k13.1
  have wl := wr
  obtain ⟨_, _, ew, _⟩ := wl
  have hw := lt_of_at ew
  clear e1 e2 e3 e12 wr eu eA k1 k2 k3
  have La := lastD_le (packed (us.take a))
  have Lok : AllOk (lastD (packed (us.take a))) := fun d hd => (packed_proper (us.take a)).all d (La.2 d hd)
  have Lu := lastD_units (us.take a)
  have smu : SmU (unitsD (lastD (packed (us.take a))) ++ vs) := ⟨by rw [List.length_append]; have := Lu.1; rw [List.length_take] at this; omega, fun x hx => by
    rcases List.mem_append.mp hx with hx | hx
    · exact uo.lt x (List.mem_of_mem_take (Lu.2 _ hx))
    · exact uo.lt x (vm _ hx)⟩
  obtain ⟨E, hE, ePk, eLast, eDrop⟩ := say_parts (us.take a) vs
  rw [← tk] at ePk eLast eDrop
  obtain ⟨L, hL⟩ : ∃ L, L = lastD (packed (us.take a)) := ⟨_, rfl⟩
  rw [← hL] at La Lok smu hE wr3
  have tx_app : ∀ (xs : List Int) (ys : List Int), EV.tup ((xs ++ ys).map EV.int) = tx (xs ++ ys) := fun _ _ => rfl
  -- the last part
  have fin : ∀ (x9 x10 x11 : Option EV) (h4 : EH), Keep (is1 b) h h4 → BagAt h4 b → h4[u]? = some (.lst (us.map Un.e)) → WrAt ad h4 w L →
      t__law_say_right_4 ad (endsOf Q) [some (.ref b), some (.ref w), some (.ref u), some (.int a), some (.int ((a : Int) + (n : Nat))), some (.ref A), some (.ref r1), some (.str (vs.map Un.chr)), some (tx (putsU vs)), x9, x10, x11, none, none, none, none] h4 := by
    intro x9 x10 x11 h4 k4 B4 eu4 wr4
    unfold t__law_say_right_4
    rw [lSeq, lPar]
    simp only [lSet, lRet, lRetN, lDrop, lOp, lVar, lC, lB, lT, lAnd, lOr, lNot, lIf, lAndV, lOrV, lNotV, lNil, lCons, lTup, lLst, lCB, lBM, lSl, lPart, lNext, lIt, lRng1, lRng2, lAsg, lPar, lSetI, lSetA, lAugS, lLc, lZip, lNeg, lCall, lChain, List.getElem?_cons_zero, List.getElem?_cons_succ, List.set_cons_zero, List.set_cons_succ, wipeE, intP, intE, lCall, lNeg]
    refine sl_l eu4 ?_
    rw [cut_to, ← List.map_take]
    refine ⟨_, us.take a, rfl, new_at, by rw [List.length_take]; omega, fun p1 h5 k5 l5 e5 => ?_⟩
    refine sl_l e5 ?_
    rw [cut_initD, ← List.map_dropLast]
    have e5' : (h5 ++ [EO.lst ((packed (us.take a)).dropLast.map Dd.e)])[h5.length]? = some (.lst ((packed (us.take a)).dropLast.map Dd.e)) := new_at
    have k45 : Keep no1 h4 (h5 ++ [EO.lst ((packed (us.take a)).dropLast.map Dd.e)]) := ((Keep.app _).trans k5).trans (Keep.app _)
    generalize h5 ++ [EO.lst ((packed (us.take a)).dropLast.map Dd.e)] = h6 at e5' k45 ⊢
    generalize h5.length = r5 at e5' ⊢
    refine sl_l (k45.at eu4) ?_
    rw [show ((a : Int) + (n : Nat)) = ((a + n : Nat) : Int) by omega, cut_to, ← List.map_take]
    refine ⟨_, us.take (a + n), rfl, new_at, by rw [List.length_take]; omega, fun p2 h7 k7 l7 e7 => ?_⟩
    refine sl_l e7 ?_
    rw [cut_initD, ← List.map_dropLast]
    have e7' : (h7 ++ [EO.lst ((packed (us.take (a + n))).dropLast.map Dd.e)])[h7.length]? = some (.lst ((packed (us.take (a + n))).dropLast.map Dd.e)) := new_at
    have k67 : Keep no1 h6 (h7 ++ [EO.lst ((packed (us.take (a + n))).dropLast.map Dd.e)]) := ((Keep.app _).trans k7).trans (Keep.app _)
    have e58 := k67.at e5'
    generalize h7 ++ [EO.lst ((packed (us.take (a + n))).dropLast.map Dd.e)] = h8 at e7' k67 e58 ⊢
    generalize h7.length = r8 at e7' ⊢
    have k48 := k45.trans k67
    have wr8 := wr4.keep k48
    have B8 := B4.keep k48
    have eb8 : h8.length > w := by obtain ⟨_, _, e, _⟩ := wr8; exact lt_of_at e
    try simp only [List.set_cons_zero, List.set_cons_succ]
    unfold t__law_say_right_5
    simp only [lRet, lSet, lRet, lRetN, lDrop, lOp, lVar, lC, lB, lT, lAnd, lOr, lNot, lIf, lAndV, lOrV, lNotV, lNil, lCons, lTup, lLst, lCB, lBM, lSl, lPart, lNext, lIt, lRng1, lRng2, lAsg, lPar, lSetI, lSetA, lAugS, lLc, lZip, lNeg, lCall, lChain, List.getElem?_cons_zero, List.getElem?_cons_succ, List.set_cons_zero, List.set_cons_succ, wipeE, intP, intE, lCall]
    have r5w : r5 ≠ w := by rintro rfl; obtain ⟨_, _, e, _⟩ := wr8; rw [e58] at e; cases e
    have r8w : r8 ≠ w := by rintro rfl; obtain ⟨_, _, e, _⟩ := wr8; rw [e7'] at e; cases e
    refine ⟨w, L, _, _, rfl, wr8, Lok, by simp; omega, by omega, .inr ⟨vs, rfl, rfl, smu, fun h9 k9 w9 => ?_⟩⟩
    rw [hE] at w9 ⊢
    rw [eLast] at w9
    have e59 := k9.2 _ _ e58 r5w
    have e79 := k9.2 _ _ e7' r8w
    simp only [lenE, e59, List.length_map]
    refine sl_l e79 ?_
    rw [cut_from, ← List.map_drop, ← eDrop]
    have ad' : AllOk E.dropLast := fun d hd => (packed_proper (unitsD L ++ vs)).all d (by rw [hE]; exact (List.dropLast_sublist E).mem hd)
    have su : SmU (unitsD E.dropLast) := by
      have hs : List.Sublist (unitsD E.dropLast) (unitsD E) := by
        have := unitsD_app (E.take (E.length - 1)) (E.drop (E.length - 1))
        rw [List.take_append_drop, ← List.dropLast_eq_take] at this
        rw [this]
        exact List.sublist_append_left _ _
      rw [← hE, packed_units] at hs
      exact smu.sub (fun u hu => by rw [hE] at hs; exact hs.mem hu) (by rw [hE] at hs; exact hs.length_le)
    have ld := su.lnD ad'
    have tl := linesS_len ld.1
    have tc := lines_chr (D := E.dropLast)
    have el : E.dropLast.length ≤ 60 := by
      have := packed_len (unitsD L ++ vs)
      rw [hE] at this
      have h2 := smu.ln
      have h3 := Lu.1
      rw [List.length_append] at this
      rw [List.length_take, ← hL] at h3
      rw [List.length_dropLast]
      omega
    refine ⟨_, E.dropLast, rfl, new_at, ld.1, by omega, fun h10 k10 => ?_⟩
    refine ⟨by simp [sizeL], ?_⟩
    have dL : ∀ {g : EH}, DS g 3 100000 (.tup [.str wLines, .str (linesS E.dropLast)]) (.tuple [.str (S wLines), .str (S (linesS E.dropLast))]) := fun {g} => DS.more (DS.tup (DSs.cons (DS.str (k := 20) (by decide) (by decide)) (DSs.cons (DS.str (k := 90000) tc (by omega)) (DSs.nil (k := 0))))) (by decide)
    refine alike_ok (n := 3) (k := 100000) dL dL (by decide) (by decide) ?_
    have k910 : Keep no1 h9 h10 := (Keep.app _).trans k10
    refine q h10 ?_ ?_ (w9.keep k910)
    · exact ((k4.weak fun r hr => .inl hr).trans (k48.all.trans (k9.weak fun r hr => .inr hr))).trans k910.all
    · exact (B8.keepW k9 fun r hr e => by unfold is1 at e; omega).keep k910
  -- the middle part
  have mid : ∀ (x9 : Option EV) (h4 : EH), Keep (is1 b) h h4 → BagAt h4 b → h4[u]? = some (.lst (us.map Un.e)) → h4[A]? = some (.lst (ns.map EV.int)) → WrAt ad h4 w L →
      t__law_say_right_3 ad (endsOf Q) [some (.ref b), some (.ref w), some (.ref u), some (.int a), some (.int ((a : Int) + (n : Nat))), some (.ref A), some (.ref r1), some (.str (vs.map Un.chr)), some (tx (putsU vs)), x9, none, none, none, none, none, none] h4 := by
    intro x9 h4 k4 B4 eu4 eA4 wr4
    unfold t__law_say_right_3
    rw [lSeq, lIfS]
    simp only [lSet, lRet, lRetN, lDrop, lOp, lVar, lC, lB, lT, lAnd, lOr, lNot, lIf, lAndV, lOrV, lNotV, lNil, lCons, lTup, lLst, lCB, lBM, lSl, lPart, lNext, lIt, lRng1, lRng2, lAsg, lPar, lSetI, lSetA, lAugS, lLc, lZip, lNeg, lCall, lChain, List.getElem?_cons_zero, List.getElem?_cons_succ, List.set_cons_zero, List.set_cons_succ, wipeE, intP, intE, lAnd]
    refine ⟨by simp [sizeL], eq_tx0 ?_⟩
    by_cases hp : putsU vs = []
    · rw [decide_eq_true hp]
      simp only [Bool.true_xor, Bool.not_true, Bool.false_eq_true, if_false]
      exact fin _ _ _ h4 k4 B4 eu4 wr4
    rw [decide_eq_false hp]
    simp only [Bool.true_xor, Bool.not_false, if_true, lCall]
    refine take_n 2 B4 rfl (by decide) (by decide) fun c h5 hc k5 B5 => ?_
    refine eq_i ?_
    have eu5 := k5.other eu4 ub
    have wr5 := wr4.other B4 La.1 k5
    by_cases c0 : c = 0
    · subst c0
      have pp : 0 < (putsU vs).length := List.length_pos_iff.mpr hp
      simp only [show decide (((0 : Nat) : Int) = 0) = true from rfl, Bool.false_xor, if_true]
      rw [lSeq, lSet]
      simp only [lSet, lRet, lRetN, lDrop, lOp, lVar, lC, lB, lT, lAnd, lOr, lNot, lIf, lAndV, lOrV, lNotV, lNil, lCons, lTup, lLst, lCB, lBM, lSl, lPart, lNext, lIt, lRng1, lRng2, lAsg, lPar, lSetI, lSetA, lAugS, lLc, lZip, lNeg, lCall, lChain, List.getElem?_cons_zero, List.getElem?_cons_succ, List.set_cons_zero, List.set_cons_succ, wipeE, intP, intE, lCall, lenE, tx, List.length_map]
      refine take_n (putsU vs).length B5 rfl pp (by omega) fun m h6 hm k6 B6 => ?_
      try simp only [List.set_cons_zero, List.set_cons_succ]
      rw [lSeq, lSet]
      simp only [lSet, lRet, lRetN, lDrop, lOp, lVar, lC, lB, lT, lAnd, lOr, lNot, lIf, lAndV, lOrV, lNotV, lNil, lCons, lTup, lLst, lCB, lBM, lSl, lPart, lNext, lIt, lRng1, lRng2, lAsg, lPar, lSetI, lSetA, lAugS, lLc, lZip, lNeg, lCall, lChain, List.getElem?_cons_zero, List.getElem?_cons_succ, List.set_cons_zero, List.set_cons_succ, wipeE, intP, intE, lenE, List.length_map]
      refine ⟨by omega, ⟨by omega, by omega⟩, ?_⟩
      have rl : rangeL 0 ((vs.length : Nat) : Int).toNat = (List.range' 0 vs.length).map fun (i : Nat) => EV.int i := by
        unfold rangeL
        rw [List.range_eq_range', Int.toNat_natCast]
        simp
      rw [rl]
      refine lc_keep (α := Nat) (fun (i : Nat) => EV.int i) (fun i => if (vs.map Un.chr).getD (i - 0) 0 = 112 then some (EV.int (i : Nat)) else none) (List.range' 0 vs.length) (by simp; omega) (fun _ _ => trivial) (fun i hi h' ky kn k hy hn => ?_) fun h7 k7 e7 => ?_
      · refine bind_nm ?_
        have hi2 : i < vs.length := by have := (List.mem_range'_1.mp hi).2; omega
        have g0 : (vs.map Un.chr)[i]? = some ((vs.map Un.chr).getD i 0) := by
          rw [List.getD_eq_getElem?_getD, List.getElem?_eq_getElem (by rw [List.length_map]; exact hi2)]; rfl
        simp only [List.set_cons_zero, List.set_cons_succ, lSet, lRet, lRetN, lDrop, lOp, lVar, lC, lB, lT, lAnd, lOr, lNot, lIf, lAndV, lOrV, lNotV, lNil, lCons, lTup, lLst, lCB, lBM, lSl, lPart, lNext, lIt, lRng1, lRng2, lAsg, lPar, lSetI, lSetA, lAugS, lLc, lZip, lNeg, lCall, lChain, List.getElem?_cons_zero, List.getElem?_cons_succ, List.set_cons_zero, List.set_cons_succ, wipeE, intP, intE, wipeE]
        rw [Nat.sub_zero] at hy hn
        refine ia_s (by simp; omega) ((atI_n _ _).trans g0) (eq_s ?_)
        by_cases hc : (vs.map Un.chr).getD i 0 = 112
        · rw [decide_eq_true (by rw [hc])]
          simp only [Bool.false_xor, truE, if_true]
          exact hy _ (by rw [if_pos hc]) _ .refl
        · rw [decide_eq_false (by simpa using hc)]
          simp only [Bool.false_xor, truE, Bool.false_eq_true, if_false]
          exact hn (by rw [if_neg hc]) _ .refl
      rw [show vs.length = (vs.map Un.chr).length by simp, idxP_eq] at e7
      try simp only [List.set_cons_zero, List.set_cons_succ]
      rw [lIfS]
      simp only [lSet, lRet, lRetN, lDrop, lOp, lVar, lC, lB, lT, lAnd, lOr, lNot, lIf, lAndV, lOrV, lNotV, lNil, lCons, lTup, lLst, lCB, lBM, lSl, lPart, lNext, lIt, lRng1, lRng2, lAsg, lPar, lSetI, lSetA, lAugS, lLc, lZip, lNeg, lCall, lChain, List.getElem?_cons_zero, List.getElem?_cons_succ, List.set_cons_zero, List.set_cons_succ, wipeE, intP, intE, lNot, lT, lCall]
      simp only [slE]
      rw [cut_to, ← List.map_take]
      obtain ⟨k, ek1, ek2⟩ := lackP_lt (n := m) (s := vs.map Un.chr) (i := 0) (a := 0) (Nat.zero_le _) (by rw [count_chr]; omega)
      have kl := idxP_mem (List.mem_of_getElem? ek2)
      rw [List.length_map, Nat.zero_add] at kl
      have wr7 := (wr5.other B5 La.1 k6).keep k7
      refine ⟨w, L, vs.map Un.chr, (putsU vs).take m, rfl, wr7, Lok, by simp; omega, by rw [List.length_take]; omega, .inl ⟨k, by rw [List.length_take, Nat.min_eq_left (by omega)]; exact ek1, fun h8 k8 => ?_⟩⟩
      have e8 := k8.at e7
      refine ia_l e8 (x := .int k) ((atI_n _ _).trans (by rw [List.getElem?_map]; rw [Nat.sub_zero] at ek2; rw [ek2]; rfl)) ?_
      refine ⟨by simp [sizeL], ?_⟩
      refine alike_ok (n := 3) (k := 100) (ds_no (by omega)) (ds_no (by omega)) (by decide) (by decide) ?_
      simp only [truE, Bool.not_true, Bool.false_eq_true, if_false]
      try refine next_go ?_
      have k68 := (k6.trans k7.all).trans k8.all
      exact fin _ _ _ h8 ((k4.trans k5).trans k68) ((B6.keep k7).keep k8) (k68.other eu5 ub) (wr7.keep k8)
    · rw [decide_eq_false (by omega)]
      simp only [Bool.false_xor, Bool.false_eq_true, if_false]
      exact fin _ _ _ h5 (k4.trans k5) B5 eu5 wr5
  unfold t__law_say_right_2
  rw [lSeq, lIfS]
  simp only [lSet, lRet, lRetN, lDrop, lOp, lVar, lC, lB, lT, lAnd, lOr, lNot, lIf, lAndV, lOrV, lNotV, lNil, lCons, lTup, lLst, lCB, lBM, lSl, lPart, lNext, lIt, lRng1, lRng2, lAsg, lPar, lSetI, lSetA, lAugS, lLc, lZip, lNeg, lCall, lChain, List.getElem?_cons_zero, List.getElem?_cons_succ, List.set_cons_zero, List.set_cons_succ, wipeE, intP, intE, lCall]
  refine take_n 3 B3 rfl (by decide) (by decide) fun c h4 hc k4 B4 => ?_
  refine eq_i ?_
  have kb4 : Keep (is1 b) h h4 := k13.all.trans k4
  have eu4 := k4.other eu3 ub
  have eA4 := k4.other eA3 Ab
  have wr4 := wr3.other B3 La.1 k4
  by_cases c0 : c = 0
  · subst c0
    simp only [show decide (((0 : Nat) : Int) = 0) = true from rfl, Bool.false_xor, if_true]
    rw [lSeq, lSet]
    simp only [lSet, lRet, lRetN, lDrop, lOp, lVar, lC, lB, lT, lAnd, lOr, lNot, lIf, lAndV, lOrV, lNotV, lNil, lCons, lTup, lLst, lCB, lBM, lSl, lPart, lNext, lIt, lRng1, lRng2, lAsg, lPar, lSetI, lSetA, lAugS, lLc, lZip, lNeg, lCall, lChain, List.getElem?_cons_zero, List.getElem?_cons_succ, List.set_cons_zero, List.set_cons_succ, wipeE, intP, intE, lCall]
    refine take_n 2 B4 rfl (by decide) (by decide) fun c2 h5 hc2 k5 B5 => ?_
    simp only [addE]
    rw [show ((1 : Int) + (c2 : Nat)) = ((c2 + 1 : Nat) : Int) by omega]
    have eA5 := k5.other eA4 Ab
    refine ⟨b, A, c2 + 1, ns, rfl, eA5, ns0, by omega, Ab, by omega, B5, fun ms h6 ml mm k6 B6 => ?_⟩
    simp only [tx]
    refine ⟨by simp; omega, ?_⟩
    rw [← List.map_append]
    try simp only [List.set_cons_zero, List.set_cons_succ]
    rw [lIfS]
    simp only [lSet, lRet, lRetN, lDrop, lOp, lVar, lC, lB, lT, lAnd, lOr, lNot, lIf, lAndV, lOrV, lNotV, lNil, lCons, lTup, lLst, lCB, lBM, lSl, lPart, lNext, lIt, lRng1, lRng2, lAsg, lPar, lSetI, lSetA, lAugS, lLc, lZip, lNeg, lCall, lChain, List.getElem?_cons_zero, List.getElem?_cons_succ, List.set_cons_zero, List.set_cons_succ, wipeE, intP, intE, lNot, lT, lCall]
    have k46 := k5.trans k6
    have wr6 := (wr4.other B4 La.1 k5).other B5 La.1 k6
    refine ⟨w, L, vs.map Un.chr, putsU vs ++ ms, rfl, wr6, Lok, by simp; omega, by simp; omega, .inl ⟨(vs.map Un.chr).length, ?_, fun h7 k7 => ?_⟩⟩
    · have := lackP_gt (n := (putsU vs ++ ms).length) (s := vs.map Un.chr) (i := 0) (a := 0) (by rw [count_chr, List.length_append]; omega)
      rw [Nat.zero_add] at this
      exact this
    simp only [lenE]
    refine ⟨by simp; omega, by simp [sizeL], ?_⟩
    refine alike_ok (n := 3) (k := 100) (ds_no (by simp; omega)) (ds_no (by simp; omega)) (by decide) (by decide) ?_
    simp only [truE, Bool.not_true, Bool.false_eq_true, if_false]
    try refine next_go ?_
    have k47 := k46.trans k7.all
    exact mid _ h7 (kb4.trans k47) (B6.keep k7) (k47.other eu4 ub) (k47.other eA4 Ab) (wr6.keep k7)
  · rw [decide_eq_false (by omega)]
    simp only [Bool.false_xor, Bool.false_eq_true, if_false]
    exact mid _ h4 kb4 B4 eu4 eA4 wr4
end Y

namespace Y
open PySem PySem.Spec PyProof.Rows L2

def stLt (c : Nat) : Lt := .str [c]
theorem LtVs.strs {b0 : Nat} {h : EH} : ∀ {vs : List EV} {cs : List Nat}, LtVs b0 h vs (cs.map stLt) → vs = cs.map fun c => EV.str [c]
  | vs, [], z => by rw [List.map_nil, LtVs] at z; rw [z]; rfl
  | vs, c :: cs, z => by
    rw [List.map_cons, LtVs] at z
    obtain ⟨v, ws, rfl, a, c2⟩ := z
    unfold stLt at a
    rw [LtV] at a
    rw [a, LtVs.strs c2]; rfl
structure StpOk (s : List Nat) : Prop where
  st : StepC s
  sl : s.length ≤ 24
end Y

namespace Y
open PySem PySem.Spec PyProof.Rows L2

structure WRow where
  ro : Nat
  w : Nat
  u : Nat
  A : Nat
  us : List Un
  ns : List Int
structure WRowAt (ad : Ad) (h : EH) (rs : Nat) (x : WRow) (a : Nat) : Prop where
  o : h[x.ro]? = some (.lst [.ref x.w, .ref x.u, .int a, .ref x.A])
  u : h[x.u]? = some (.lst (x.us.map Un.e))
  A : h[x.A]? = some (.lst (x.ns.map EV.int))
  w : WrAt ad h x.w (lastD (packed (x.us.take a)))
  al : a ≤ x.us.length
  uo : UnOk x.us
  n0 : x.ns ≠ []
  nl : x.ns.length ≤ 4
  lo : rs < x.ro
  lw : rs < x.w
  lu : rs < x.u
  lA : rs < x.A
def WOff (h : EH) (rs : Nat) (y : WRow) (p : Nat) : Prop := p ≤ rs ∨ (p ≠ y.w ∧ ∃ C vs, h[p]? = some (.slo C vs)) ∨ (p ≠ y.ro ∧ ∃ r r2 xs, h[p]? = some (.lst (.ref r :: .ref r2 :: xs)))
theorem un_ne {us : List Un} {r r2 : Nat} {xs : List EV} (e : EO.lst (us.map Un.e) = .lst (.ref r :: .ref r2 :: xs)) : False := by
  have := EO.lst.inj e
  cases us with
  | nil => cases this
  | cons c cs => cases c <;> cases (List.cons.inj this).1
theorem dd_ne {D : Delta} {r r2 : Nat} {xs : List EV} (e : EO.lst (D.map Dd.e) = .lst (.ref r :: .ref r2 :: xs)) : False := by
  have := EO.lst.inj e
  cases D with
  | nil => cases this
  | cons c cs => cases c <;> cases (List.cons.inj this).1
theorem int_ne {ns : List Int} {r r2 : Nat} {xs : List EV} (e : EO.lst (ns.map EV.int) = .lst (.ref r :: .ref r2 :: xs)) : False := by
  have := EO.lst.inj e
  cases ns with
  | nil => cases this
  | cons c cs => cases (List.cons.inj this).1
theorem WRowAt.off {ad : Ad} {h h' : EH} {rs : Nat} {y : WRow} {a : Nat} {S : Nat → Prop} (z : WRowAt ad h rs y a) (k : Keep S h h') (hS : ∀ p, S p → WOff h rs y p) : WRowAt ad h' rs y a := by
  have no : ∀ {q o}, h[q]? = some o → rs < q → (∀ C vs, o = .slo C vs → q = y.w) → (∀ r r2 xs, o = .lst (.ref r :: .ref r2 :: xs) → q = y.ro) → ¬ S q := by
    intro q o e nb n1 n2 hq
    rcases hS q hq with h1 | ⟨h1, C, vs, h2⟩ | ⟨h1, r, r2, xs, h2⟩
    · omega
    · exact h1 (n1 C vs (Option.some.inj (e.symm.trans h2)))
    · exact h1 (n2 r r2 xs (Option.some.inj (e.symm.trans h2)))
  obtain ⟨r, l0, e1, e2⟩ := z.w
  have lw := z.lw
  exact ⟨k.2 _ _ z.o (no z.o z.lo (fun C vs e => by cases e) fun _ _ _ _ => rfl), k.2 _ _ z.u (no z.u z.lu (fun C vs e => by cases e) fun r r2 xs e => (un_ne e).elim), k.2 _ _ z.A (no z.A z.lA (fun C vs e => by cases e) fun r r2 xs e => (int_ne e).elim),
    ⟨r, l0, k.2 _ _ e1 (no e1 lw (fun _ _ _ => rfl) fun r r2 xs e => by cases e), k.2 _ _ e2 (no e2 (by omega) (fun C vs e => by cases e) fun r r2 xs e => (dd_ne e).elim)⟩, z.al, z.uo, z.n0, z.nl, z.lo, z.lw, z.lu, z.lA⟩
structure WRsAt (ad : Ad) (h : EH) (b rs : Nat) (Rs : List WRow) (p : WRow → Nat → Prop) : Prop where
  o : h[rs]? = some (.lst (Rs.map fun x => .ref x.ro))
  rb : b < rs
  n1 : (Rs.map (·.ro)).Nodup
  n2 : (Rs.map (·.w)).Nodup
  m : ∀ x ∈ Rs, ∃ a, WRowAt ad h rs x a ∧ p x a
theorem WRsAt.bag {ad : Ad} {h h' : EH} {b rs : Nat} {Rs : List WRow} {p : WRow → Nat → Prop} (z : WRsAt ad h b rs Rs p) (k : Keep (is1 b) h h') : WRsAt ad h' b rs Rs p :=
  ⟨k.other z.o (by have := z.rb; omega), z.rb, z.n1, z.n2, fun x hx => let ⟨a, r, q⟩ := z.m x hx; ⟨a, r.off k fun p hp => .inl (by have := z.rb; unfold is1 at hp; omega), q⟩⟩
theorem WRsAt.imp {ad : Ad} {h : EH} {b rs : Nat} {Rs : List WRow} {p p' : WRow → Nat → Prop} (z : WRsAt ad h b rs Rs p) (i : ∀ x ∈ Rs, ∀ a, p x a → a ≤ x.us.length → p' x a) : WRsAt ad h b rs Rs p' :=
  ⟨z.o, z.rb, z.n1, z.n2, fun x hx => let ⟨a, r, q⟩ := z.m x hx; ⟨a, r, i x hx a q r.al⟩⟩
theorem nd_inj {α : Type} {f : α → Nat} : ∀ {l : List α}, (l.map f).Nodup → ∀ {x y : α}, x ∈ l → y ∈ l → f x = f y → x = y
  | [], _, x, y, hx, _, _ => by cases hx
  | z :: l, nd, x, y, hx, hy, e => by
    rw [List.map_cons, List.nodup_cons] at nd
    rcases List.mem_cons.mp hx with rfl | hx
    · rcases List.mem_cons.mp hy with rfl | hy
      · rfl
      · exact absurd (List.mem_map.mpr ⟨y, hy, e.symm⟩) nd.1
    · rcases List.mem_cons.mp hy with hy | hy
      · exact absurd (List.mem_map.mpr ⟨x, hx, by rw [e, hy]⟩) nd.1
      · exact nd_inj nd.2 hx hy e
theorem WRsAt.step {ad : Ad} {h h' : EH} {b rs : Nat} {Rs : List WRow} {p p' : WRow → Nat → Prop} {x : WRow} {a a2 : Nat} (z : WRsAt ad h b rs Rs p) (hx : x ∈ Rs) (r : WRowAt ad h rs x a) (k : Keep (is2W b x.w) h h')
    (wr : WrAt ad h' x.w (lastD (packed (x.us.take a2)))) (al : a2 ≤ x.us.length) (imp : ∀ y ∈ Rs, y ≠ x → ∀ a, p y a → p' y a) (px : p' x a2) : h'[x.ro]? = some (.lst [.ref x.w, .ref x.u, .int a, .ref x.A]) ∧
    WRsAt ad (h'.set x.ro (.lst [.ref x.w, .ref x.u, .int a2, .ref x.A])) b rs Rs p' := by
  obtain ⟨q0, _, ew, _⟩ := r.w
  have lo := r.lo
  have lw := r.lw
  have lu := r.lu
  have lA := r.lA
  have rb := z.rb
  have wro : x.ro ≠ x.w := by intro e; have := r.o; rw [e, ew] at this; cases this
  have e0 : h'[x.ro]? = some (.lst [.ref x.w, .ref x.u, .int a, .ref x.A]) := k.2 _ _ r.o (fun e => e.elim (by omega) wro)
  have offs : ∀ {y : WRow}, y.w ≠ x.w → ∀ p, is2W b x.w p → WOff h rs y p := fun {y} nw p hp => hp.elim (fun e => .inl (by omega)) fun e => by subst e; exact .inr (.inl ⟨nw.symm, _, _, ew⟩)
  obtain ⟨q1, l1, ew1, eq1⟩ := wr
  have ks : Keep (is1 x.ro) h' (h'.set x.ro (.lst [.ref x.w, .ref x.u, .int a2, .ref x.A])) := Keep.set rfl
  have uw : x.u ≠ x.w := by intro e; have := r.u; rw [e, ew] at this; cases this
  have Aw : x.A ≠ x.w := by intro e; have := r.A; rw [e, ew] at this; cases this
  have eu : h'[x.u]? = some (.lst (x.us.map Un.e)) := k.2 _ _ r.u (fun e => e.elim (by omega) uw)
  have eA : h'[x.A]? = some (.lst (x.ns.map EV.int)) := k.2 _ _ r.A (fun e => e.elim (by omega) Aw)
  refine ⟨e0, ⟨?_, z.rb, z.n1, z.n2, fun y hy => ?_⟩⟩
  · rw [List.getElem?_set_ne (by omega)]
    exact k.2 _ _ z.o (fun e => e.elim (by omega) (by omega))
  · by_cases e : y = x
    · subst e
      refine ⟨a2, ⟨set_at e0, set_off eu ?_, set_off eA ?_, ⟨q1, l1, set_off ew1 wro.symm, set_off eq1 ?_⟩, al, r.uo, r.n0, r.nl, lo, lw, lu, lA⟩, px⟩
      · intro e
        rw [e, e0] at eu
        exact un_ne (Option.some.inj eu).symm
      · intro e
        rw [e, e0] at eA
        exact int_ne (Option.some.inj eA).symm
      · intro e
        rw [e, e0] at eq1
        exact dd_ne (Option.some.inj eq1).symm
    · obtain ⟨ay, ry, py⟩ := z.m y hy
      have nw : y.w ≠ x.w := fun e2 => e (nd_inj z.n2 hy hx e2)
      have nr : y.ro ≠ x.ro := fun e2 => e (nd_inj z.n1 hy hx e2)
      have r1 := ry.off k (offs nw)
      have r2 := r1.off ks fun p hp => by obtain rfl : p = x.ro := hp; exact .inr (.inr ⟨nr.symm, _, _, _, e0⟩)
      exact ⟨ay, r2, imp y hy e ay py⟩
theorem WRsAt.more {ad : Ad} {h h' : EH} {b rs : Nat} {Rs : List WRow} {p : WRow → Nat → Prop} {x : WRow} {a : Nat} (z : WRsAt ad h b rs Rs p) (k : Keep no1 h h') (r : WRowAt ad h' rs x a) (f1 : h.length ≤ x.ro) (f2 : h.length ≤ x.w) (px : p x a) :
    h'[rs]? = some (.lst (Rs.map fun x => .ref x.ro)) ∧ WRsAt ad (h'.set rs (.lst ((Rs ++ [x]).map fun x => .ref x.ro))) b rs (Rs ++ [x]) p := by
  have e0 := k.at z.o
  have ks : Keep (is1 rs) h' (h'.set rs (.lst ((Rs ++ [x]).map fun x => .ref x.ro))) := Keep.set rfl
  have low : ∀ y ∈ Rs, y.ro < h.length ∧ y.w < h.length := fun y hy => by
    obtain ⟨_, ry, _⟩ := z.m y hy
    obtain ⟨_, _, e, _⟩ := ry.w
    exact ⟨lt_of_at ry.o, lt_of_at e⟩
  have offR : ∀ {y : WRow} {c : Nat}, WRowAt ad h' rs y c → WRowAt ad (h'.set rs (.lst ((Rs ++ [x]).map fun x => .ref x.ro))) rs y c := fun ry => ry.off ks fun p hp => .inl (by unfold is1 at hp; omega)
  refine ⟨e0, ⟨set_at e0, z.rb, ?_, ?_, fun y hy => ?_⟩⟩
  · rw [List.map_append, List.nodup_append]
    refine ⟨z.n1, by simp, fun i hi j hj e => ?_⟩
    obtain ⟨y, hy, rfl⟩ := List.mem_map.mp hi
    simp at hj
    have := (low y hy).1
    omega
  · rw [List.map_append, List.nodup_append]
    refine ⟨z.n2, by simp, fun i hi j hj e => ?_⟩
    obtain ⟨y, hy, rfl⟩ := List.mem_map.mp hi
    simp at hj
    have := (low y hy).2
    omega
  · rcases List.mem_append.mp hy with hy | hy
    · obtain ⟨c, ry, py⟩ := z.m y hy
      exact ⟨c, offR (ry.off k fun p hp => hp.elim), py⟩
    · rw [List.mem_singleton.mp hy]
      exact ⟨a, offR r, px⟩
theorem make_wr {ad : Ad} {h : EH} {P : EK} {env : En} (q : ∀ h', Keep no1 h h' → WrAt ad h' h.length [] → P (.ref h.length) h') : lMake ad.a_Writer (sp_Writer___init__ ad) lNil env h P := by
  simp only [lMake, lNil]
  exact ⟨_, rfl, new_at, fun h' k z => ⟨rfl, q h' (keep_new (Keep.app _) k (Nat.le_refl _)) z⟩⟩
def menus97 : List (List Nat) := [[107, 100, 112], [107, 107, 107, 100, 112, 112], [112, 100], [112], [100, 100, 107]]
def menuLt97 : List Lt := [.lst [.str [107], .str [100], .str [112]], .lst [.str [107], .str [107], .str [107], .str [100], .str [112], .str [112]], .lst [.str [112], .str [100]], .lst [.str [112]], .lst [.str [100], .str [100], .str [107]]]
theorem menu97_eq : menuLt97 = menus97.map fun cs => .lst (cs.map stLt) := rfl
theorem menu97_ok : ∀ cs ∈ menus97, (∀ c ∈ cs, c = 107 ∨ c = 100 ∨ c = 112) ∧ cs ≠ [] ∧ cs.length ≤ 10 := by decide
theorem packed_tx {us : List Un} (z : UnOk us) : TxOk (packed us) := by
  have ok : AllOk (packed us) := (packed_proper us).all
  have ul := z.ln
  have pl := packed_len us
  have sm : SmU (unitsD (packed us)) := by rw [packed_units]; exact ⟨by omega, z.lt⟩
  have nt := numsT_units ok
  rw [packed_units] at nt
  exact ⟨(sm.lnD ok).1, packed_proper us, by omega, by omega⟩
abbrev N_law_k97 : List Str := ["_law_script", "_law_bag_here", "_law_rows", "_law_great", "_law_turn", "_law_letters", "_law_menu", "_law_units", "_law_k", "_law_step", "_law_again", "_law_row", "_law_writer", "_law_at", "_law_end", "_law_last"]
def t_law_k97_5 (ad : Ad) : LS :=
    lRet (lC (.bl true))
def t_law_k97_4b_1b_2 (ad : Ad) : LS :=
    lSetA (lVar 11) (lC (.int 2)) (lC (.int 0))
def t_law_k97_4b_1b_1 (ad : Ad) : LS :=
    lSeq (lIfS (lNot (lT (lCall (sp__law_alike ad) (lCons (lLst (lCons (lMet (List.lookup · [(ad.a_Writer, (sp_Writer_close ad))]) (lOp ixA (lVar 11) (lC (.int 0))) lNil) (lCons (lMet (List.lookup · [(ad.a_Writer, (sp_Writer_close ad))]) (lOp ixA (lVar 11) (lC (.int 0))) lNil) (lCons (lCall (sp__law_said ad) (lCons (lOp ixA (lVar 11) (lC (.int 0))) (lCons (lC (.str [])) (lCons (lTup (lNil)) (lNil))))) (lNil))))) (lCons (lLst (lCons (lVar 15) (lCons (lC (.str [])) (lCons (lTup (lCons (lC (.str [108, 105, 110, 101, 115])) (lCons (lC (.str [])) (lNil)))) (lNil))))) (lNil))))))
      (lRet (lC (.bl false)))
      (lNext)) <| t_law_k97_4b_1b_2 ad
def t_law_k97_4b_1b_0 (ad : Ad) : LS :=
    lSeq (lSet (lCall (sp__law_lines ad) (lCons (lSl (lCall (sp__law_packed ad) (lCons (lOp ixA (lVar 11) (lC (.int 1))) (lNil))) (lPart (some (lNeg (lC (.int 1))))) (lPart none)) (lNil))) 15) <| t_law_k97_4b_1b_1 ad
def t_law_k97_4b_1 (ad : Ad) : LS :=
    lFor (lIt (lVar 2)) (.nm 11)
      (t_law_k97_4b_1b_0 ad)
def t_law_k97_4b_0b_0b_3 (ad : Ad) : LS :=
    lSetA (lVar 11) (lC (.int 2)) (lVar 14)
def t_law_k97_4b_0b_0b_2 (ad : Ad) : LS :=
    lSeq (lIfS (lNot (lT (lCall (sp__law_say_right ad) (lCons (lVar 1) (lCons (lVar 12) (lCons (lVar 7) (lCons (lVar 13) (lCons (lVar 14) (lCons (lVar 5) (lNil))))))))))
      (lRet (lC (.bl false)))
      (lNext)) <| t_law_k97_4b_0b_0b_3 ad
def t_law_k97_4b_0b_0b_1 (ad : Ad) : LS :=
    lSeq (lSet (lIf (lB (lOp (eqE false) (lVar 8) (lC (.int 6)))) (lCB lenE (lCons (lVar 7) (lNil))) (lCB minE (lCons (lCB lenE (lCons (lVar 7) (lNil))) (lCons (lOp addE (lVar 13) (lCall (sp__law_take ad) (lCons (lVar 1) (lCons (lC (.int 9)) (lNil))))) (lNil))))) 14) <| t_law_k97_4b_0b_0b_2 ad
def t_law_k97_4b_0b_0b_0 (ad : Ad) : LS :=
    lSeq (lAsg (lVar 11) (.tp [.nm 12, .nm 7, .nm 13, .nm 5])) <| t_law_k97_4b_0b_0b_1 ad
def t_law_k97_4b_0b_0 (ad : Ad) : LS :=
    lFor (lIt (lVar 2)) (.nm 11)
      (t_law_k97_4b_0b_0b_0 ad)
def t_law_k97_4b_0 (ad : Ad) : LS :=
    lSeq (lFor (lRng1 (lCons (lC (.int 7)) (lNil))) (.nm 8)
      (t_law_k97_4b_0b_0 ad)) <| t_law_k97_4b_1 ad
def t_law_k97_4 (ad : Ad) : LS :=
    lSeq (lFor (lRng1 (lCons (lC (.int 2)) (lNil))) (.nm 10)
      (t_law_k97_4b_0 ad)) <| t_law_k97_5 ad
def t_law_k97_3b_5 (ad : Ad) : LS :=
    lDrop (lBM "list" appendE (lVar 2) (lCons (lLst (lCons (lMake ad.a_Writer (sp_Writer___init__ ad) lNil) (lCons (lVar 7) (lCons (lC (.int 0)) (lCons (lVar 5) (lNil)))))) (lNil)))
def t_law_k97_3b_4 (ad : Ad) : LS :=
    lSeq (lIfS (lNot (lT (lCall (sp__law_texts_right ad) (lCons (lVar 1) (lCons (lCall (sp__law_packed ad) (lCons (lVar 7) (lNil))) (lNil))))))
      (lRet (lC (.bl false)))
      (lNext)) <| t_law_k97_3b_5 ad
def t_law_k97_3b_3b_1 (ad : Ad) : LS :=
    lDrop (lBM "list" appendE (lVar 7) (lCons (lIf (lB (lOp (eqE false) (lVar 9) (lC (.str [112])))) (lTup (lCons (lC (.str [112])) (lCons (lCall (sp__law_one ad) (lCons (lVar 1) (lCons (lVar 5) (lNil)))) (lNil)))) (lTup (lCons (lVar 9) (lNil)))) (lNil)))
def t_law_k97_3b_3b_0 (ad : Ad) : LS :=
    lSeq (lSet (lCall (sp__law_one ad) (lCons (lVar 1) (lCons (lVar 6) (lNil)))) 9) <| t_law_k97_3b_3b_1 ad
def t_law_k97_3b_3 (ad : Ad) : LS :=
    lSeq (lFor (lRng1 (lCons (lCall (sp__law_one ad) (lCons (lVar 1) (lCons (lLst (lCons (lC (.int 8)) (lCons (lC (.int 24)) (lCons (lC (.int 0)) (lCons (lC (.int 1)) (lCons (lC (.int 15)) (lNil))))))) (lNil)))) (lNil))) (.nm 8)
      (t_law_k97_3b_3b_0 ad)) <| t_law_k97_3b_4 ad
def t_law_k97_3b_2 (ad : Ad) : LS :=
    lSeq (lSet (lLst (lNil)) 7) <| t_law_k97_3b_3 ad
def t_law_k97_3b_1 (ad : Ad) : LS :=
    lSeq (lSet (lCall (sp__law_one ad) (lCons (lVar 1) (lCons (lLst (lCons (lLst (lCons (lC (.str [107])) (lCons (lC (.str [100])) (lCons (lC (.str [112])) (lNil))))) (lCons (lLst (lCons (lC (.str [107])) (lCons (lC (.str [107])) (lCons (lC (.str [107])) (lCons (lC (.str [100])) (lCons (lC (.str [112])) (lCons (lC (.str [112])) (lNil)))))))) (lCons (lLst (lCons (lC (.str [112])) (lCons (lC (.str [100])) (lNil)))) (lCons (lLst (lCons (lC (.str [112])) (lNil))) (lCons (lLst (lCons (lC (.str [100])) (lCons (lC (.str [100])) (lCons (lC (.str [107])) (lNil))))) (lNil))))))) (lNil)))) 6) <| t_law_k97_3b_2 ad
def t_law_k97_3b_0 (ad : Ad) : LS :=
    lSeq (lSet (lCall (sp__law_alphabet ad) (lCons (lVar 1) (lNil))) 5) <| t_law_k97_3b_1 ad
def t_law_k97_3 (ad : Ad) : LS :=
    lSeq (lFor (lRng1 (lCons (lC (.int 2)) (lNil))) (.nm 4)
      (t_law_k97_3b_0 ad)) <| t_law_k97_4 ad
def t_law_k97_2 (ad : Ad) : LS :=
    lSeq (lIfS (lNot (lT (lCall (sp__law_texts_right ad) (lCons (lVar 1) (lCons (lOp addE (lVar 3) (lLst (lCons (lTup (lCons (lC (.str [100, 114, 111, 112])) (lCons (lOp addE (lC (.int 1)) (lCall (sp__law_take ad) (lCons (lVar 1) (lCons (lC (.int 99)) (lNil))))) (lNil)))) (lNil)))) (lNil))))))
      (lRet (lC (.bl false)))
      (lNext)) <| t_law_k97_3 ad
def t_law_k97_1 (ad : Ad) : LS :=
    lSeq (lPar 2 3 (lCons (lLst (lNil)) (lCons (lLst (lCons (lTup (lCons (lC (.str [107, 101, 101, 112])) (lCons (lOp addE (lC (.int 1)) (lCall (sp__law_take ad) (lCons (lVar 1) (lCons (lC (.int 99)) (lNil))))) (lNil)))) (lCons (lTup (lCons (lC (.str [112, 117, 116])) (lCons (lTup (lCons (lOp powE (lC (.int 10)) (lC (.int 9))) (lCons (lCall (sp__law_take ad) (lCons (lVar 1) (lCons (lC (.int 12)) (lNil)))) (lNil)))) (lNil)))) (lNil)))) (lNil)))) <| t_law_k97_2 ad
def t_law_k97_0 (ad : Ad) : LS :=
    lSeq (lSet (lCall (sp__law_bag ad) (lCons (lVar 0) (lNil))) 1) <| t_law_k97_1 ad
def t_law_k97 (ad : Ad) : LS :=
    lSeq (lSet (lCall (sp__law_bag ad) (lCons (lVar 0) (lNil))) 1) <|
    lSeq (lPar 2 3 (lCons (lLst (lNil)) (lCons (lLst (lCons (lTup (lCons (lC (.str [107, 101, 101, 112])) (lCons (lOp addE (lC (.int 1)) (lCall (sp__law_take ad) (lCons (lVar 1) (lCons (lC (.int 99)) (lNil))))) (lNil)))) (lCons (lTup (lCons (lC (.str [112, 117, 116])) (lCons (lTup (lCons (lOp powE (lC (.int 10)) (lC (.int 9))) (lCons (lCall (sp__law_take ad) (lCons (lVar 1) (lCons (lC (.int 12)) (lNil)))) (lNil)))) (lNil)))) (lNil)))) (lNil)))) <|
    lSeq (lIfS (lNot (lT (lCall (sp__law_texts_right ad) (lCons (lVar 1) (lCons (lOp addE (lVar 3) (lLst (lCons (lTup (lCons (lC (.str [100, 114, 111, 112])) (lCons (lOp addE (lC (.int 1)) (lCall (sp__law_take ad) (lCons (lVar 1) (lCons (lC (.int 99)) (lNil))))) (lNil)))) (lNil)))) (lNil))))))
      (lRet (lC (.bl false)))
      (lNext)) <|
    lSeq (lFor (lRng1 (lCons (lC (.int 2)) (lNil))) (.nm 4)
      (lSeq (lSet (lCall (sp__law_alphabet ad) (lCons (lVar 1) (lNil))) 5) <|
    lSeq (lSet (lCall (sp__law_one ad) (lCons (lVar 1) (lCons (lLst (lCons (lLst (lCons (lC (.str [107])) (lCons (lC (.str [100])) (lCons (lC (.str [112])) (lNil))))) (lCons (lLst (lCons (lC (.str [107])) (lCons (lC (.str [107])) (lCons (lC (.str [107])) (lCons (lC (.str [100])) (lCons (lC (.str [112])) (lCons (lC (.str [112])) (lNil)))))))) (lCons (lLst (lCons (lC (.str [112])) (lCons (lC (.str [100])) (lNil)))) (lCons (lLst (lCons (lC (.str [112])) (lNil))) (lCons (lLst (lCons (lC (.str [100])) (lCons (lC (.str [100])) (lCons (lC (.str [107])) (lNil))))) (lNil))))))) (lNil)))) 6) <|
    lSeq (lSet (lLst (lNil)) 7) <|
    lSeq (lFor (lRng1 (lCons (lCall (sp__law_one ad) (lCons (lVar 1) (lCons (lLst (lCons (lC (.int 8)) (lCons (lC (.int 24)) (lCons (lC (.int 0)) (lCons (lC (.int 1)) (lCons (lC (.int 15)) (lNil))))))) (lNil)))) (lNil))) (.nm 8)
      (lSeq (lSet (lCall (sp__law_one ad) (lCons (lVar 1) (lCons (lVar 6) (lNil)))) 9) <|
    lDrop (lBM "list" appendE (lVar 7) (lCons (lIf (lB (lOp (eqE false) (lVar 9) (lC (.str [112])))) (lTup (lCons (lC (.str [112])) (lCons (lCall (sp__law_one ad) (lCons (lVar 1) (lCons (lVar 5) (lNil)))) (lNil)))) (lTup (lCons (lVar 9) (lNil)))) (lNil))))) <|
    lSeq (lIfS (lNot (lT (lCall (sp__law_texts_right ad) (lCons (lVar 1) (lCons (lCall (sp__law_packed ad) (lCons (lVar 7) (lNil))) (lNil))))))
      (lRet (lC (.bl false)))
      (lNext)) <|
    lDrop (lBM "list" appendE (lVar 2) (lCons (lLst (lCons (lMake ad.a_Writer (sp_Writer___init__ ad) lNil) (lCons (lVar 7) (lCons (lC (.int 0)) (lCons (lVar 5) (lNil)))))) (lNil))))) <|
    lSeq (lFor (lRng1 (lCons (lC (.int 2)) (lNil))) (.nm 10)
      (lSeq (lFor (lRng1 (lCons (lC (.int 7)) (lNil))) (.nm 8)
      (lFor (lIt (lVar 2)) (.nm 11)
      (lSeq (lAsg (lVar 11) (.tp [.nm 12, .nm 7, .nm 13, .nm 5])) <|
    lSeq (lSet (lIf (lB (lOp (eqE false) (lVar 8) (lC (.int 6)))) (lCB lenE (lCons (lVar 7) (lNil))) (lCB minE (lCons (lCB lenE (lCons (lVar 7) (lNil))) (lCons (lOp addE (lVar 13) (lCall (sp__law_take ad) (lCons (lVar 1) (lCons (lC (.int 9)) (lNil))))) (lNil))))) 14) <|
    lSeq (lIfS (lNot (lT (lCall (sp__law_say_right ad) (lCons (lVar 1) (lCons (lVar 12) (lCons (lVar 7) (lCons (lVar 13) (lCons (lVar 14) (lCons (lVar 5) (lNil))))))))))
      (lRet (lC (.bl false)))
      (lNext)) <|
    lSetA (lVar 11) (lC (.int 2)) (lVar 14)))) <|
    lFor (lIt (lVar 2)) (.nm 11)
      (lSeq (lSet (lCall (sp__law_lines ad) (lCons (lSl (lCall (sp__law_packed ad) (lCons (lOp ixA (lVar 11) (lC (.int 1))) (lNil))) (lPart (some (lNeg (lC (.int 1))))) (lPart none)) (lNil))) 15) <|
    lSeq (lIfS (lNot (lT (lCall (sp__law_alike ad) (lCons (lLst (lCons (lMet (List.lookup · [(ad.a_Writer, (sp_Writer_close ad))]) (lOp ixA (lVar 11) (lC (.int 0))) lNil) (lCons (lMet (List.lookup · [(ad.a_Writer, (sp_Writer_close ad))]) (lOp ixA (lVar 11) (lC (.int 0))) lNil) (lCons (lCall (sp__law_said ad) (lCons (lOp ixA (lVar 11) (lC (.int 0))) (lCons (lC (.str [])) (lCons (lTup (lNil)) (lNil))))) (lNil))))) (lCons (lLst (lCons (lVar 15) (lCons (lC (.str [])) (lCons (lTup (lCons (lC (.str [108, 105, 110, 101, 115])) (lCons (lC (.str [])) (lNil)))) (lNil))))) (lNil))))))
      (lRet (lC (.bl false)))
      (lNext)) <|
    lSetA (lVar 11) (lC (.int 2)) (lC (.int 0))))) <|
    lRet (lC (.bl true))
theorem say_k97 {ad : Ad} {D : LEnds} {h : EH} {b rs i : Nat} {Rs : List WRow} {x : WRow} {p p' : WRow → Nat → Prop} {x3 x4 x5 x6 x7 x9 x10 x12 x13 x14 x15 : Option EV} (B : BagAt h b) (z : WRsAt ad h b rs Rs p) (hx : x ∈ Rs) (hi : i < 7)
    (imp : ∀ y ∈ Rs, y ≠ x → ∀ a, p y a → p' y a) (px : ∀ a, (i = 6 → a = x.us.length) → p' x a)
    (hk : ∀ y5 y7 y12 y13 y14 h', BagAt h' b → WRsAt ad h' b rs Rs p' → Keep (fun r => ¬ r = rs) h h' → D.nx [some (.ref 0), some (.ref b), some (.ref rs), x3, x4, y5, x6, y7, some (.int i), x9, x10, some (.ref x.ro), y12, y13, y14, x15] h') :
    t_law_k97_4b_0b_0b_0 ad D [some (.ref 0), some (.ref b), some (.ref rs), x3, x4, x5, x6, x7, some (.int i), x9, x10, some (.ref x.ro), x12, x13, x14, x15] h := by
  have sz : sizeLine = 16777216 := sizeL
  obtain ⟨a, r, pa⟩ := z.m x hx
  have uo := r.uo
  have ul := uo.ln
  have al := r.al
  have rb := z.rb
  have lo := r.lo
  have lw := r.lw
  have lu := r.lu
  have lA := r.lA
  unfold t_law_k97_4b_0b_0b_0
  rw [lSeq, lAsg]
  simp only [lSet, lRet, lRetN, lDrop, lOp, lVar, lC, lB, lT, lAnd, lOr, lNot, lIf, lAndV, lOrV, lNotV, lNil, lCons, lTup, lLst, lCB, lBM, lSl, lPart, lNext, lIt, lRng1, lRng2, lAsg, lPar, lSetI, lSetA, lAugS, lLc, lZip, lNeg, lCall, lChain, List.getElem?_cons_zero, List.getElem?_cons_succ, List.set_cons_zero, List.set_cons_succ, wipeE, intP, intE]
  simp only [lBind, Pat.bind, r.o, Pat.binds, List.set_cons_zero, List.set_cons_succ]
  unfold t_law_k97_4b_0b_0b_1
  try dsimp only
  rw [lSeq, lSet]
  -- the end of the part
  have fin : ∀ (n : Nat) (h2 : EH), a + n ≤ x.us.length → (i = 6 → a + n = x.us.length) → Keep (is1 b) h h2 → BagAt h2 b → t_law_k97_4b_0b_0b_2 ad D [some (.ref 0), some (.ref b), some (.ref rs), x3, x4, some (.ref x.A), x6, some (.ref x.u), some (.int i), x9, x10, some (.ref x.ro), some (.ref x.w), some (.int a), some (.int ((a : Int) + (n : Nat))), x15] h2 := by
    intro n h2 an ie k2 B2
    have z2 := z.bag k2
    have r2 := r.off k2 fun p hp => .inl (by unfold is1 at hp; omega)
    obtain ⟨_, _, ew, _⟩ := r2.w
    unfold t_law_k97_4b_0b_0b_2
    rw [lSeq, lIfS]
    simp only [lSet, lRet, lRetN, lDrop, lOp, lVar, lC, lB, lT, lAnd, lOr, lNot, lIf, lAndV, lOrV, lNotV, lNil, lCons, lTup, lLst, lCB, lBM, lSl, lPart, lNext, lIt, lRng1, lRng2, lAsg, lPar, lSetI, lSetA, lAugS, lLc, lZip, lNeg, lCall, lChain, List.getElem?_cons_zero, List.getElem?_cons_succ, List.set_cons_zero, List.set_cons_succ, wipeE, intP, intE, lNot, lT, lCall]
    have uw : x.u ≠ x.w := by intro e; have := r2.u; rw [e, ew] at this; cases this
    refine ⟨b, x.w, x.u, x.A, a, n, x.us, x.ns, rfl, B2, by omega, r2.u, by omega, uw, uo, an, r2.A, r2.n0, r2.nl, by omega, r2.w, fun h3 k3 B3 w3 => ?_⟩
    simp only [truE, Bool.not_true, Bool.false_eq_true, if_false]
    try refine next_go ?_
    obtain ⟨e3, z3⟩ := z2.step (p' := p') hx r2 k3 w3 an imp (px _ ie)
    unfold t_law_k97_4b_0b_0b_3
    simp only [lSetA, lVar, lC, List.getElem?_cons_zero, List.getElem?_cons_succ, setA, setE, e3]
    try simp only [show ixN ([EV.ref x.w, .ref x.u, .int a, .ref x.A]).length 2 = some 2 from rfl]
    rw [show ((a : Int) + (n : Nat)) = ((a + n : Nat) : Int) by omega]
    refine hk _ _ _ _ _ _ (B3.set (by omega)) z3 ?_
    have k23 : Keep (fun r => ¬ r = rs) h h3 := (k2.weak fun r hr => by unfold is1 at hr; omega).trans (k3.weak fun r hr => by unfold is2W at hr; omega)
    exact k23.trans (Keep.set (by omega))
  simp only [lIf, lB, lOp, lCall, lCB, lCons, lNil, lVar, lC, List.getElem?_cons_zero, List.getElem?_cons_succ]
  refine eq_i ?_
  by_cases h6 : i = 6
  · subst h6
    simp only [show decide (((6 : Nat) : Int) = 6) = true from rfl, Bool.false_xor, if_true, lenE, r.u, List.length_map]
    try simp only [List.set_cons_zero, List.set_cons_succ]
    have := fin (x.us.length - a) h (by omega) (fun _ => by omega) .refl B
    rw [show ((a : Int) + ((x.us.length - a : Nat) : Int)) = ((x.us.length : Nat) : Int) by omega] at this
    exact this
  · rw [decide_eq_false (by omega)]
    simp only [Bool.false_xor, Bool.false_eq_true, if_false, lenE, r.u, List.length_map]
    refine take_n 9 B rfl (by decide) (by decide) fun c h2 hc k2 B2 => ?_
    simp only [addE, minE]
    try simp only [List.set_cons_zero, List.set_cons_succ]
    have := fin (min c (x.us.length - a)) h2 (by omega) (fun e => absurd e h6) k2 B2
    have e : (if (x.us.length : Int) ≤ (a : Int) + (c : Nat) then (x.us.length : Int) else (a : Int) + (c : Nat)) = (a : Int) + ((min c (x.us.length - a) : Nat) : Int) := by split <;> omega
    first
      | (rw [← e] at this; exact this)
      | (have e' : (if (a : Int) + (c : Nat) < (x.us.length : Int) then (a : Int) + (c : Nat) else (x.us.length : Int)) = (a : Int) + ((min c (x.us.length - a) : Nat) : Int) := by split <;> omega
         rw [← e'] at this; exact this)
theorem end_k97 {ad : Ad} {D : LEnds} {h : EH} {b rs : Nat} {Rs : List WRow} {x : WRow} {p p' : WRow → Nat → Prop} {x3 x4 x5 x6 x7 x8 x9 x10 x12 x13 x14 x15 : Option EV} (B : BagAt h b) (z : WRsAt ad h b rs Rs p) (hx : x ∈ Rs) (full : ∀ a, p x a → a = x.us.length)
    (imp : ∀ y ∈ Rs, y ≠ x → ∀ a, p y a → p' y a) (px : ∀ a, p' x a)
    (hk : ∀ y15 h', BagAt h' b → WRsAt ad h' b rs Rs p' → Keep (fun r => ¬ r = rs) h h' → D.nx [some (.ref 0), some (.ref b), some (.ref rs), x3, x4, x5, x6, x7, x8, x9, x10, some (.ref x.ro), x12, x13, x14, y15] h') :
    t_law_k97_4b_1b_0 ad D [some (.ref 0), some (.ref b), some (.ref rs), x3, x4, x5, x6, x7, x8, x9, x10, some (.ref x.ro), x12, x13, x14, x15] h := by
  have sz : sizeLine = 16777216 := sizeL
  obtain ⟨a, r, pa⟩ := z.m x hx
  obtain rfl := full a pa
  have uo := r.uo
  have ul := uo.ln
  have rb := z.rb
  have lo := r.lo
  have lw := r.lw
  unfold t_law_k97_4b_1b_0
  rw [lSeq, lSet]
  simp only [lSet, lRet, lRetN, lDrop, lOp, lVar, lC, lB, lT, lAnd, lOr, lNot, lIf, lAndV, lOrV, lNotV, lNil, lCons, lTup, lLst, lCB, lBM, lSl, lPart, lNext, lIt, lRng1, lRng2, lAsg, lPar, lSetI, lSetA, lAugS, lLc, lZip, lNeg, lCall, lChain, List.getElem?_cons_zero, List.getElem?_cons_succ, List.set_cons_zero, List.set_cons_succ, wipeE, intP, intE, lCall, lNeg]
  have ix : ∀ {g : EH} {j : Nat} {v : EV} {P : EK}, g[x.ro]? = some (.lst [.ref x.w, .ref x.u, .int x.us.length, .ref x.A]) → [EV.ref x.w, .ref x.u, .int x.us.length, .ref x.A][j]? = some v → P v g → ixA (.ref x.ro) (.int (j : Nat)) g P := fun e e2 p => ia_l e ((atI_n _ _).trans e2) p
  refine ix (j := 1) r.o rfl ?_
  refine ⟨x.u, x.us, rfl, r.u, by omega, fun p1 h1 k1 l1 e1 => ?_⟩
  refine sl_l e1 ?_
  rw [cut_last, List.length_map, ← List.map_drop]
  obtain ⟨L, hL⟩ : ∃ L, L = lastD (packed x.us) := ⟨_, rfl⟩
  have La := lastD_le (packed x.us)
  have Lok : AllOk L := fun d hd => (packed_proper x.us).all d (La.2 d (hL ▸ hd))
  have Lu := lastD_units x.us
  rw [← hL] at Lu La
  have smu : SmU (unitsD L) := ⟨by omega, fun y hy => uo.lt y (Lu.2 _ hy)⟩
  have ld := smu.lnD Lok
  have eL : (packed x.us).drop ((packed x.us).length - 1) = L := hL.symm
  rw [eL]
  refine ⟨_, L, rfl, new_at, ld.1, by omega, fun h2 k2 => ?_⟩
  have k02 : Keep no1 h h2 := (k1.trans (Keep.app _)).trans k2
  have tl := linesS_len ld.1
  have tc := lines_chr (D := L)
  try simp only [List.set_cons_zero, List.set_cons_succ]
  unfold t_law_k97_4b_1b_1
  try dsimp only
  rw [lSeq, lIfS]
  have w2 := r.w.keep k02
  rw [List.take_length, ← hL] at w2
  have wslot : ∀ {g : EH} {L' : Delta}, WrAt ad g x.w L' → ∃ rr, g[x.w]? = some (.slo ad.a_Writer [some (.ref rr)]) := fun z => let ⟨rr, _, e, _⟩ := z; ⟨rr, e⟩
  simp only [lNot, lT, lCall, lCons, lNil, lLst, lTup, lMet, lOp, lVar, lC, List.getElem?_cons_zero, List.getElem?_cons_succ]
  have wro : x.ro ≠ x.w := by obtain ⟨_, e⟩ := wslot w2; intro e2; have := k02.at r.o; rw [e2, e] at this; cases this
  have e2 := k02.at r.o
  refine ix (j := 0) e2 rfl ?_
  obtain ⟨s2, es2⟩ := wslot w2
  simp only [metK, es2, List.lookup_cons, beq_self_eq_true]
  refine ⟨x.w, L, rfl, w2, Lok, smu, fun h3 k3 w3 => ?_⟩
  have e3 := k3.other e2 wro
  refine ix (j := 0) e3 rfl ?_
  obtain ⟨s3, es3⟩ := wslot w3
  simp only [metK, es3, List.lookup_cons, beq_self_eq_true]
  have sm0 : SmU (unitsD []) := ⟨by simp [unitsD], fun y hy => by cases hy⟩
  refine ⟨x.w, [], rfl, w3, (fun d hd => by cases hd), sm0, fun h4 k4 w4 => ?_⟩
  have e4 := k4.other e3 wro
  refine ix (j := 0) e4 rfl ?_
  refine ⟨by simp [sizeL], ?_⟩
  refine ⟨x.w, [], [], [], rfl, w4, (fun d hd => by cases hd), by simp, by simp, .inr ⟨[], rfl, rfl, sm0, fun h5 k5 w5 => ?_⟩⟩
  rw [show (packed (unitsD [] ++ [])).dropLast = ([] : Delta) from rfl]
  have e5 := k5.other e4 wro
  refine ⟨by simp [sizeL], by simp [sizeL], by simp [sizeL], ?_⟩
  have kk : Keep no1 h5 (h5 ++ [EO.lst [EV.str (linesS L), EV.str (linesS []), EV.tup [.str wLines, .str (linesS [])]]] ++ [EO.lst [EV.str (linesS L), EV.str [], EV.tup [.str wLines, .str []]]]) := (Keep.app _).trans (Keep.app _)
  have dL : ∀ {g : EH} {q : Nat}, g[q]? = some (.lst [EV.str (linesS L), EV.str [], EV.tup [.str wLines, .str []]]) → DS g 4 200000 (.ref q) (.list [.str (S (linesS L)), .str (S []), .tuple [.str (S wLines), .str (S [])]]) := fun {g q} e =>
    DS.more (DS.lst e (DSs.cons (DS.str (k := 130000) tc (by omega)) (DSs.cons (DS.str (k := 0) (by simp) (by simp)) (DSs.cons (DS.tup (DSs.cons (DS.str (k := 20) (by decide) (by decide)) (DSs.cons (DS.str (k := 0) (by simp) (by simp)) (DSs.nil (k := 0))))) (DSs.nil (k := 0)))))) (by decide)
  refine alike_ok (n := 4) (k := 200000) (dL (app_at new_at _)) (dL new_at) (by decide) (by decide) ?_
  try simp only [truE, Bool.not_true, Bool.false_eq_true, if_false]
  try refine next_go ?_
  have k25 : Keep (is1 x.w) h2 h5 := (k3.trans k4).trans k5
  have k05 : Keep (is1 x.w) h h5 := k02.all.trans k25
  have k06 := k05.trans kk.all
  have w6 := w5.keep kk
  have e6 := kk.at e5
  have B6 := ((B.keep k02).keepW k25 fun r hr e => by unfold is1 at e; omega).keep kk
  generalize h5 ++ [EO.lst [EV.str (linesS L), EV.str (linesS []), EV.tup [.str wLines, .str (linesS [])]]] ++ [EO.lst [EV.str (linesS L), EV.str [], EV.tup [.str wLines, .str []]]] = h6 at k06 w6 e6 B6 ⊢
  obtain ⟨e7, z7⟩ := z.step (p' := p') (a2 := 0) hx r (k06.weak fun r hr => .inr hr) w6 (Nat.zero_le _) imp (px 0)
  unfold t_law_k97_4b_1b_2
  simp only [lSetA, lVar, lC, List.getElem?_cons_zero, List.getElem?_cons_succ, setA, setE, e7]
  try simp only [show ixN ([EV.ref x.w, .ref x.u, .int x.us.length, .ref x.A]).length 2 = some 2 from rfl]
  refine hk _ _ (B6.set (by omega)) z7 ?_
  exact (k06.weak fun r hr => by unfold is1 at hr; omega).trans (Keep.set (by omega))
theorem pure_law_k97 (ad : Ad) (evs : List EV) (h : EH) (Q : EK) (q : spTop 63 evs h Q) : t_law_k97 ad (endsOf Q) (startE N_law_k97 evs) h := by
  obtain ⟨ns0, rfl, rfl, hl0, q⟩ := q
  show t_law_k97_0 ad (endsOf Q) [some (.ref 0), none, none, none, none, none, none, none, none, none, none, none, none, none, none, none] _
  have sz : sizeLine = 16777216 := sizeL
  unfold t_law_k97_0
  try dsimp only
  rw [lSeq, lSet]
  refine ⟨ns0, rfl, rfl, hl0, fun b h1 B1 => ?_⟩
  try simp only [List.set_cons_zero, List.set_cons_succ]
  unfold t_law_k97_1
  try dsimp only
  rw [lSeq, lPar]
  simp only [lSet, lRet, lRetN, lDrop, lOp, lVar, lC, lB, lT, lAnd, lOr, lNot, lIf, lAndV, lOrV, lNotV, lNil, lCons, lTup, lLst, lCB, lBM, lSl, lPart, lNext, lIt, lRng1, lRng2, lAsg, lPar, lSetI, lSetA, lAugS, lLc, lZip, lNeg, lCall, lChain, List.getElem?_cons_zero, List.getElem?_cons_succ, List.set_cons_zero, List.set_cons_succ, wipeE, intP, intE, lCall]
  refine ⟨by simp [sizeL], ?_⟩
  have hb := B1.lt
  have e2 : (h1 ++ [EO.lst []])[h1.length]? = some (.lst ([] : List EV)) := new_at
  have B2 := B1.keep (Keep.app (b := no1) [EO.lst []])
  generalize h1 ++ [EO.lst []] = h2 at e2 B2 ⊢
  have rsb : b < h1.length := hb
  generalize h1.length = rs at e2 rsb ⊢
  refine take_n 99 B2 rfl (by decide) (by decide) fun c1 h3 hc1 k3 B3 => ?_
  simp only [addE]
  refine ⟨by simp [sizeL], ?_⟩
  refine ⟨by unfold CPow; decide, ?_⟩
  rw [show (10 : Int) ^ Int.toNat 9 = 1000000000 from rfl]
  refine take_n 12 B3 rfl (by decide) (by decide) fun c2 h4 hc2 k4 B4 => ?_
  refine ⟨by simp [sizeL], by simp [sizeL], by simp [sizeL], ?_⟩
  have er4 : h4[rs]? = some (.lst ([] : List EV)) := (k3.trans k4).other e2 (by omega)
  rw [show ((1 : Int) + (c1 : Nat)) = ((c1 + 1 : Nat) : Int) by omega]
  have eD : ([EV.tup [.str [107, 101, 101, 112], .int ((c1 + 1 : Nat) : Int)], .tup [.str [112, 117, 116], .tup [.int 1000000000, .int (c2 : Nat)]]] : List EV) = ([Dd.keep (c1 + 1), .put [1000000000, (c2 : Int)]] : Delta).map Dd.e := rfl
  rw [eD]
  have e5 : (h4 ++ [EO.lst (([Dd.keep (c1 + 1), .put [1000000000, (c2 : Int)]] : Delta).map Dd.e)])[h4.length]? = some (.lst (([Dd.keep (c1 + 1), .put [1000000000, (c2 : Int)]] : Delta).map Dd.e)) := new_at
  have B5 := B4.keep (Keep.app (b := no1) [EO.lst (([Dd.keep (c1 + 1), .put [1000000000, (c2 : Int)]] : Delta).map Dd.e)])
  have er5 := app_at er4 [EO.lst (([Dd.keep (c1 + 1), .put [1000000000, (c2 : Int)]] : Delta).map Dd.e)]
  have gb : h4.length ≠ b := by have := B4.lt; omega
  generalize h4 ++ [EO.lst (([Dd.keep (c1 + 1), .put [1000000000, (c2 : Int)]] : Delta).map Dd.e)] = h5 at e5 B5 er5 ⊢
  generalize h4.length = rg at e5 gb ⊢
  try simp only [List.set_cons_zero, List.set_cons_succ]
  unfold t_law_k97_2
  try dsimp only
  rw [lSeq, lIfS]
  simp only [lSet, lRet, lRetN, lDrop, lOp, lVar, lC, lB, lT, lAnd, lOr, lNot, lIf, lAndV, lOrV, lNotV, lNil, lCons, lTup, lLst, lCB, lBM, lSl, lPart, lNext, lIt, lRng1, lRng2, lAsg, lPar, lSetI, lSetA, lAugS, lLc, lZip, lNeg, lCall, lChain, List.getElem?_cons_zero, List.getElem?_cons_succ, List.set_cons_zero, List.set_cons_succ, wipeE, intP, intE, lNot, lT, lCall]
  refine take_n 99 B5 rfl (by decide) (by decide) fun c3 h6 hc3 k6 B6 => ?_
  simp only [addE]
  refine ⟨by simp [sizeL], by simp [sizeL], ?_⟩
  have e6 := k6.other e5 gb
  have er6 := k6.other er5 (by omega)
  rw [show ((1 : Int) + (c3 : Nat)) = ((c3 + 1 : Nat) : Int) by omega]
  simp only [app_at e6 _, new_at]
  refine ⟨by simp [sizeL], ?_⟩
  have eD2 : (([Dd.keep (c1 + 1), .put [1000000000, (c2 : Int)]] : Delta).map Dd.e) ++ [EV.tup [.str [100, 114, 111, 112], .int ((c3 + 1 : Nat) : Int)]] = ([Dd.keep (c1 + 1), .put [1000000000, (c2 : Int)], .drop (c3 + 1)] : Delta).map Dd.e := rfl
  rw [eD2]
  have kk : Keep no1 h6 (h6 ++ [EO.lst [EV.tup [.str [100, 114, 111, 112], .int ((c3 + 1 : Nat) : Int)]]] ++ [EO.lst (([Dd.keep (c1 + 1), .put [1000000000, (c2 : Int)], .drop (c3 + 1)] : Delta).map Dd.e)]) := (Keep.app _).trans (Keep.app _)
  have tok : TxOk [Dd.keep (c1 + 1), .put [1000000000, (c2 : Int)], .drop (c3 + 1)] := by
    refine ⟨fun d hd => ?_, ⟨Nat.succ_pos _, (by decide : (0 : Nat) ≠ 2), List.cons_ne_nil _ _, (by decide : (2 : Nat) ≠ 1), Nat.succ_pos _⟩, by simp, by simp [numsT, numsD]⟩
    simp only [List.mem_cons, List.not_mem_nil, or_false] at hd
    rcases hd with rfl | rfl | rfl
    · exact ⟨⟨by simp [Dd.ok], fun x hx => by simp [numsD] at hx; omega⟩, by simp [numsD]⟩
    · exact ⟨⟨by simp [Dd.ok], fun x hx => by simp [numsD] at hx; omega⟩, by simp [numsD]⟩
    · exact ⟨⟨by simp [Dd.ok], fun x hx => by simp [numsD] at hx; omega⟩, by simp [numsD]⟩
  refine ⟨b, _, _, rfl, new_at, tok, ?_, B6.keep kk, fun h7 k7 B7 => ?_⟩
  · have := B6.lt
    rw [List.length_append]
    omega
  simp only [truE, Bool.not_true, Bool.false_eq_true, if_false]
  try refine next_go ?_
  have er7 : h7[rs]? = some (.lst ([] : List EV)) := k7.other (kk.at er6) (by omega)
  clear e2 B2 B3 k3 k4 er4 e5 B5 er5 e6 er6 k6 kk k7 B6 B4
  unfold t_law_k97_3
  try dsimp only
  rw [lSeq, lFor]
  simp only [lSet, lRet, lRetN, lDrop, lOp, lVar, lC, lB, lT, lAnd, lOr, lNot, lIf, lAndV, lOrV, lNotV, lNil, lCons, lTup, lLst, lCB, lBM, lSl, lPart, lNext, lIt, lRng1, lRng2, lAsg, lPar, lSetI, lSetA, lAugS, lLc, lZip, lNeg, lCall, lChain, List.getElem?_cons_zero, List.getElem?_cons_succ, List.set_cons_zero, List.set_cons_succ, wipeE, intP, intE]
  refine ⟨⟨by decide, by decide⟩, ?_⟩
  have z7 : WRsAt ad h7 b rs [] (fun _ _ => True) := ⟨er7, rsb, by simp, by simp, fun x hx => by cases hx⟩
  refine loop_nat 2 (fun i env h' => ∃ (Rs : List WRow) (x4 x5 x6 x7 x8 x9 : Option EV), env = [some (.ref 0), some (.ref b), some (.ref rs), some (.ref rg), x4, x5, x6, x7, x8, x9, none, none, none, none, none, none] ∧ Rs.length = i ∧ BagAt h' b ∧ WRsAt ad h' b rs Rs (fun _ _ => True)) ?_ ?_ _ _ ⟨[], none, none, none, none, none, none, rfl, rfl, B7, z7⟩
  · rintro env h' ⟨Rs, x4, x5, x6, x7, x8, x9, rfl, rl, B', z'⟩
    refine ⟨trivial, ?_⟩
    unfold t_law_k97_4
    try dsimp only
    rw [lSeq, lFor]
    simp only [lSet, lRet, lRetN, lDrop, lOp, lVar, lC, lB, lT, lAnd, lOr, lNot, lIf, lAndV, lOrV, lNotV, lNil, lCons, lTup, lLst, lCB, lBM, lSl, lPart, lNext, lIt, lRng1, lRng2, lAsg, lPar, lSetI, lSetA, lAugS, lLc, lZip, lNeg, lCall, lChain, List.getElem?_cons_zero, List.getElem?_cons_succ, List.set_cons_zero, List.set_cons_succ, wipeE, intP, intE]
    refine ⟨⟨by decide, by decide⟩, ?_⟩
    refine loop_nat 2 (fun i env h' => ∃ (x5 x7 x8 x10 x11 x12 x13 x14 x15 : Option EV), env = [some (.ref 0), some (.ref b), some (.ref rs), some (.ref rg), x4, x5, x6, x7, x8, x9, x10, x11, x12, x13, x14, x15] ∧ BagAt h' b ∧ WRsAt ad h' b rs Rs (fun _ _ => True)) ?_ ?_ _ _ ⟨_, _, _, _, _, _, _, _, _, rfl, B', z'⟩
    · rintro env h8 ⟨x5, x7, x8, x10, x11, x12, x13, x14, x15, rfl, B8, z8⟩
      refine ⟨trivial, ?_⟩
      unfold t_law_k97_5
      simp only [lRet, lC]
      exact q h8
    · rintro i env h8 kk8 hi ⟨x5, x7, x8, x10, x11, x12, x13, x14, x15, rfl, B8, z8⟩ hk8
      refine ⟨trivial, bind_nm ?_⟩
      simp only [List.set_cons_zero, List.set_cons_succ]
      unfold t_law_k97_4b_0
      rw [lSeq, lFor]
      simp only [lSet, lRet, lRetN, lDrop, lOp, lVar, lC, lB, lT, lAnd, lOr, lNot, lIf, lAndV, lOrV, lNotV, lNil, lCons, lTup, lLst, lCB, lBM, lSl, lPart, lNext, lIt, lRng1, lRng2, lAsg, lPar, lSetI, lSetA, lAugS, lLc, lZip, lNeg, lCall, lChain, List.getElem?_cons_zero, List.getElem?_cons_succ, List.set_cons_zero, List.set_cons_succ, wipeE, intP, intE]
      refine ⟨⟨by decide, by decide⟩, ?_⟩
      refine loop_nat 7 (fun k env h' => ∃ (x5 x7 x8 x11 x12 x13 x14 : Option EV), env = [some (.ref 0), some (.ref b), some (.ref rs), some (.ref rg), x4, x5, x6, x7, x8, x9, some (.int i), x11, x12, x13, x14, x15] ∧ BagAt h' b ∧ WRsAt ad h' b rs Rs (fun x a => k = 7 → a = x.us.length)) ?_ ?_ _ _ ⟨_, _, _, _, _, _, _, rfl, B8, z8.imp fun _ _ _ _ _ e => by cases e⟩
      · rintro env h9 ⟨x5, x7, x8, x11, x12, x13, x14, rfl, B9, z9⟩
        refine ⟨trivial, ?_⟩
        unfold t_law_k97_4b_1
        try dsimp only
        rw [lFor]
        simp only [lSet, lRet, lRetN, lDrop, lOp, lVar, lC, lB, lT, lAnd, lOr, lNot, lIf, lAndV, lOrV, lNotV, lNil, lCons, lTup, lLst, lCB, lBM, lSl, lPart, lNext, lIt, lRng1, lRng2, lAsg, lPar, lSetI, lSetA, lAugS, lLc, lZip, lNeg, lCall, lChain, List.getElem?_cons_zero, List.getElem?_cons_succ, List.set_cons_zero, List.set_cons_succ, wipeE, intP, intE, srcE, z9.o]
        refine loop_on (fun x : WRow => EV.ref x.ro) Rs (fun a l env h' => ∃ (x11 x15 : Option EV), env = [some (.ref 0), some (.ref b), some (.ref rs), some (.ref rg), x4, x5, x6, x7, x8, x9, some (.int i), x11, x12, x13, x14, x15] ∧ BagAt h' b ∧ WRsAt ad h' b rs Rs (fun x a => x ∈ l → a = x.us.length)) ?_ ?_ _ _ ⟨_, _, rfl, B9, z9.imp fun x _ a h1 _ _ => h1 rfl⟩
        · rintro env h10 ⟨x11, x15, rfl, B10, z10⟩
          exact ⟨z10.o, hk8 _ _ ⟨_, _, _, _, _, _, _, _, _, rfl, B10, z10.imp fun _ _ _ _ _ => trivial⟩⟩
        · rintro a x l env h10 kk10 es ⟨x11, x15, rfl, B10, z10⟩ hk10
          refine ⟨z10.o, bind_nm ?_⟩
          simp only [List.set_cons_zero, List.set_cons_succ]
          refine end_k97 B10 z10 (x := x) (by rw [es]; simp) (fun a h => h (by simp)) (p' := fun x a => x ∈ l → a = x.us.length) (fun y hy ne a h hl => h (List.mem_cons_of_mem _ hl)) (fun a hl => ?_) fun y15 h11 B11 z11 k11 => hk10 _ _ ⟨_, _, rfl, B11, z11⟩
          have nd := z10.n1
          rw [es, List.map_append, List.map_cons, List.nodup_append] at nd
          have := (List.nodup_cons.mp nd.2.1).1
          exact absurd (List.mem_map.mpr ⟨x, hl, rfl⟩) this
      · rintro k env h9 kk9 hk ⟨x5, x7, x8, x11, x12, x13, x14, rfl, B9, z9⟩ hk9
        refine ⟨trivial, bind_nm ?_⟩
        simp only [List.set_cons_zero, List.set_cons_succ]
        unfold t_law_k97_4b_0b_0
        rw [lFor]
        simp only [lSet, lRet, lRetN, lDrop, lOp, lVar, lC, lB, lT, lAnd, lOr, lNot, lIf, lAndV, lOrV, lNotV, lNil, lCons, lTup, lLst, lCB, lBM, lSl, lPart, lNext, lIt, lRng1, lRng2, lAsg, lPar, lSetI, lSetA, lAugS, lLc, lZip, lNeg, lCall, lChain, List.getElem?_cons_zero, List.getElem?_cons_succ, List.set_cons_zero, List.set_cons_succ, wipeE, intP, intE, srcE, z9.o]
        refine loop_on (fun x : WRow => EV.ref x.ro) Rs (fun a l env h' => ∃ (x5 x7 x11 x12 x13 x14 : Option EV), env = [some (.ref 0), some (.ref b), some (.ref rs), some (.ref rg), x4, x5, x6, x7, some (.int k), x9, some (.int i), x11, x12, x13, x14, x15] ∧ BagAt h' b ∧ WRsAt ad h' b rs Rs (fun x c => x ∈ a → k = 6 → c = x.us.length)) ?_ ?_ _ _ ⟨_, _, _, _, _, _, rfl, B9, z9.imp fun x _ a h1 _ h2 => by cases h2⟩
        · rintro env h10 ⟨x5, x7, x11, x12, x13, x14, rfl, B10, z10⟩
          exact ⟨z10.o, hk9 _ _ ⟨_, _, _, _, _, _, _, rfl, B10, z10.imp fun x hx c h1 _ h2 => h1 hx (by omega)⟩⟩
        · rintro a x l env h10 kk10 es ⟨x5, x7, x11, x12, x13, x14, rfl, B10, z10⟩ hk10
          refine ⟨z10.o, bind_nm ?_⟩
          simp only [List.set_cons_zero, List.set_cons_succ]
          exact say_k97 B10 z10 (x := x) (by rw [es]; simp) hk (p' := fun y c => y ∈ a ++ [x] → k = 6 → c = y.us.length) (fun y hy ne c h hl => h ((List.mem_append.mp hl).resolve_right fun e => ne (List.mem_singleton.mp e))) (fun c h _ => h) fun y5 y7 y12 y13 y14 h11 B11 z11 k11 => hk10 _ _ ⟨_, _, _, _, _, _, rfl, B11, z11⟩
  · rintro i env h8 kk8 hi ⟨Rs, x4, x5, x6, x7, x8, x9, rfl, rl, B8, z8⟩ hk8
    refine ⟨trivial, bind_nm ?_⟩
    simp only [List.set_cons_zero, List.set_cons_succ]
    unfold t_law_k97_3b_0
    rw [lSeq, lSet]
    simp only [lSet, lRet, lRetN, lDrop, lOp, lVar, lC, lB, lT, lAnd, lOr, lNot, lIf, lAndV, lOrV, lNotV, lNil, lCons, lTup, lLst, lCB, lBM, lSl, lPart, lNext, lIt, lRng1, lRng2, lAsg, lPar, lSetI, lSetA, lAugS, lLc, lZip, lNeg, lCall, lChain, List.getElem?_cons_zero, List.getElem?_cons_succ, List.set_cons_zero, List.set_cons_succ, wipeE, intP, intE, lCall]
    refine ⟨b, rfl, B8, fun A ns h9 nd n0 n4 nr k9 lA eA B9 => ?_⟩
    have z9 := z8.bag k9
    have rsl := lt_of_at z8.o
    have Ab : A ≠ b := by omega
    have nsn : ns ≠ [] := by intro z; rw [z] at n0; exact absurd n0 (by decide)
    try simp only [List.set_cons_zero, List.set_cons_succ]
    unfold t_law_k97_3b_1
    try dsimp only
    obtain ⟨T, hT⟩ : ∃ T, T = Lt.code (.lst menuLt97) := ⟨_, rfl⟩
    have hT' := hT
    simp only [menuLt97, Lt.code, Lt.codes] at hT'
    rw [← hT', hT, lSeq, lSet]
    simp only [lCall, lCons, lNil]
    simp only [lVar, List.getElem?_cons_zero, List.getElem?_cons_succ]
    refine Lt.run (b0 := h9.length) (.lst menuLt97) (by decide +kernel) (Nat.le_refl _) fun v h10 k10 zz => ?_
    obtain ⟨rM, vs, rfl, lM, eM, cM⟩ : ∃ r vs, v = .ref r ∧ h9.length ≤ r ∧ h10[r]? = some (.lst vs) ∧ LtVs h9.length h10 vs menuLt97 := by rw [LtV] at zz; exact zz
    have B10 := B9.keep k10
    have hb9 := B9.lt
    have lvs := cM.len
    refine ⟨b, rM, vs, rfl, eM, (by intro z; rw [z] at lvs; exact absurd lvs (by decide)), by rw [lvs, sizeL]; decide, by omega, B10, fun m h11 hm k11 B11 => ?_⟩
    obtain ⟨l, hl, zl⟩ := cM.mem m hm
    rw [menu97_eq] at hl
    obtain ⟨cs, hcs, rfl⟩ := List.mem_map.mp hl
    obtain ⟨mOk, mNe, mLn⟩ := menu97_ok cs hcs
    have zl3 := zl.keep k11 (fun r hr e => by unfold is1 at e; omega)
    obtain ⟨rm, ws, rfl, lm, em, cm⟩ : ∃ r ws, m = .ref r ∧ h9.length ≤ r ∧ h11[r]? = some (.lst ws) ∧ LtVs h9.length h11 ws (cs.map stLt) := by rw [LtV] at zl3; exact zl3
    obtain rfl := cm.strs
    have k911 : Keep (is1 b) h9 h11 := k10.all.trans k11
    have e11 := k911.other eA Ab
    have z11 := z9.bag k911
    clear zl zl3 cm eM cM zz
    try simp only [List.set_cons_zero, List.set_cons_succ]
    unfold t_law_k97_3b_2
    try dsimp only
    rw [lSeq, lSet]
    simp only [lSet, lRet, lRetN, lDrop, lOp, lVar, lC, lB, lT, lAnd, lOr, lNot, lIf, lAndV, lOrV, lNotV, lNil, lCons, lTup, lLst, lCB, lBM, lSl, lPart, lNext, lIt, lRng1, lRng2, lAsg, lPar, lSetI, lSetA, lAugS, lLc, lZip, lNeg, lCall, lChain, List.getElem?_cons_zero, List.getElem?_cons_succ, List.set_cons_zero, List.set_cons_succ, wipeE, intP, intE]
    refine ⟨by simp [sizeL], ?_⟩
    have e12 : (h11 ++ [EO.lst []])[h11.length]? = some (.lst ([] : List EV)) := new_at
    have k12 : Keep no1 h11 (h11 ++ [EO.lst []]) := Keep.app _
    have B12 := B11.keep k12
    have uub : b < h11.length := B11.lt
    have rsu : rs < h11.length := lt_of_at z11.o
    have rmb : rm ≠ b := by omega
    generalize h11 ++ [EO.lst []] = h12 at e12 k12 B12 ⊢
    obtain ⟨uu, huu⟩ : ∃ uu, uu = h11.length := ⟨_, rfl⟩
    rw [← huu] at e12 uub rsu ⊢
    try simp only [List.set_cons_zero, List.set_cons_succ]
    unfold t_law_k97_3b_3
    try dsimp only
    rw [lSeq, lFor]
    simp only [lSet, lRet, lRetN, lDrop, lOp, lVar, lC, lB, lT, lAnd, lOr, lNot, lIf, lAndV, lOrV, lNotV, lNil, lCons, lTup, lLst, lCB, lBM, lSl, lPart, lNext, lIt, lRng1, lRng2, lAsg, lPar, lSetI, lSetA, lAugS, lLc, lZip, lNeg, lCall, lChain, List.getElem?_cons_zero, List.getElem?_cons_succ, List.set_cons_zero, List.set_cons_succ, wipeE, intP, intE, lCall]
    refine ⟨by simp [sizeL], ?_⟩
    refine one_new B12 (by simp) (by simp) fun v h13 hv k13 B13 => ?_
    obtain ⟨n, rfl, hn⟩ : ∃ n : Nat, v = .int (n : Nat) ∧ n ≤ 24 := by
      simp only [List.mem_cons, List.not_mem_nil, or_false] at hv
      rcases hv with rfl | rfl | rfl | rfl | rfl
      · exact ⟨8, rfl, by decide⟩
      · exact ⟨24, rfl, by decide⟩
      · exact ⟨0, rfl, by decide⟩
      · exact ⟨1, rfl, by decide⟩
      · exact ⟨15, rfl, by decide⟩
    refine ⟨⟨by omega, by omega⟩, ?_⟩
    rw [show ((n : Nat) : Int).toNat = n by omega]
    have eu13 := k13.other e12 (by omega)
    have k1113 : Keep (is1 b) h11 h13 := k12.all.trans k13
    refine loop_nat n (fun k env h' => ∃ (us : List Un) (x8 x9 : Option EV), env = [some (.ref 0), some (.ref b), some (.ref rs), some (.ref rg), some (.int i), some (.ref A), some (.ref rm), some (.ref uu), x8, x9, none, none, none, none, none, none] ∧ us.length = k ∧ LetU us ∧ BagAt h' b ∧ Keep (is1 b) h11 h' ∧ h'[uu]? = some (.lst (us.map Un.e))) ?_ ?_ _ _ ⟨[], _, _, rfl, rfl, (fun x hx => by cases hx), B13, k1113, eu13⟩
    · rintro env h14 ⟨us, x8, x9, rfl, ul, lu, B14, k14, eu14⟩
      refine ⟨trivial, ?_⟩
      have uok : UnOk us := ⟨by omega, lu⟩
      have z14 := z11.bag k14
      have eA14 := k14.other e11 Ab
      unfold t_law_k97_3b_4
      try dsimp only
      rw [lSeq, lIfS]
      simp only [lSet, lRet, lRetN, lDrop, lOp, lVar, lC, lB, lT, lAnd, lOr, lNot, lIf, lAndV, lOrV, lNotV, lNil, lCons, lTup, lLst, lCB, lBM, lSl, lPart, lNext, lIt, lRng1, lRng2, lAsg, lPar, lSetI, lSetA, lAugS, lLc, lZip, lNeg, lCall, lChain, List.getElem?_cons_zero, List.getElem?_cons_succ, List.set_cons_zero, List.set_cons_succ, wipeE, intP, intE, lNot, lT, lCall]
      refine ⟨uu, us, rfl, eu14, by omega, fun p1 h15 k15 l15 e15 => ?_⟩
      have B15 := B14.keep k15
      refine ⟨b, p1, packed us, rfl, e15, packed_tx uok, by have := B14.lt; omega, B15, fun h16 k16 B16 => ?_⟩
      simp only [truE, Bool.not_true, Bool.false_eq_true, if_false]
      try refine next_go ?_
      have k1416 : Keep (is1 b) h14 h16 := k15.all.trans k16
      have z16 := z14.bag k1416
      have eu16 := k1416.other eu14 (by omega)
      have eA16 := k1416.other eA14 Ab
      unfold t_law_k97_3b_5
      rw [lDrop]
      simp only [lSet, lRet, lRetN, lDrop, lOp, lVar, lC, lB, lT, lAnd, lOr, lNot, lIf, lAndV, lOrV, lNotV, lNil, lCons, lTup, lLst, lCB, lBM, lSl, lPart, lNext, lIt, lRng1, lRng2, lAsg, lPar, lSetI, lSetA, lAugS, lLc, lZip, lNeg, lCall, lChain, List.getElem?_cons_zero, List.getElem?_cons_succ, List.set_cons_zero, List.set_cons_succ, wipeE, intP, intE]
      refine ⟨isTy_l z16.o, ?_⟩
      refine make_wr fun h17 k17 w17 => ?_
      have hw17 : h16.length < h17.length := by obtain ⟨_, _, e, _⟩ := w17; exact lt_of_at e
      have rs16 := lt_of_at z16.o
      refine ⟨by simp [sizeL], ?_⟩
      have k18 : Keep no1 h16 (h17 ++ [EO.lst [EV.ref h16.length, .ref uu, .int 0, .ref A]]) := k17.trans (Keep.app _)
      have r18 : WRowAt ad (h17 ++ [EO.lst [EV.ref h16.length, .ref uu, .int 0, .ref A]]) rs ⟨h17.length, h16.length, uu, A, us, ns⟩ 0 :=
        ⟨new_at, k18.at eu16, k18.at eA16, w17.keep (Keep.app _), Nat.zero_le _, uok, nsn, n4, by show rs < h17.length; omega, rs16, rsu, by show rs < A; omega⟩
      obtain ⟨e18, z18⟩ := z16.more k18 r18 (by show h16.length ≤ h17.length; omega) (Nat.le_refl _) trivial
      refine app_f e18 (by rw [List.length_map]; omega) ?_
      rw [List.map_append] at z18
      refine hk8 _ _ ⟨Rs ++ [⟨h17.length, h16.length, uu, A, us, ns⟩], _, _, _, _, _, _, rfl, by simp; omega, ?_, ?_⟩
      · exact (B16.keep k18).set rsb
      · rw [← List.map_append] at z18; simpa using z18
    · rintro k env h14 kk14 hkn ⟨us, x8, x9, rfl, ul, lu, B14, k14, eu14⟩ hk14
      refine ⟨trivial, bind_nm ?_⟩
      simp only [List.set_cons_zero, List.set_cons_succ]
      have eA14 := k14.other e11 Ab
      have em14 := k14.other em rmb
      unfold t_law_k97_3b_3b_0
      rw [lSeq, lSet]
      simp only [lSet, lRet, lRetN, lDrop, lOp, lVar, lC, lB, lT, lAnd, lOr, lNot, lIf, lAndV, lOrV, lNotV, lNil, lCons, lTup, lLst, lCB, lBM, lSl, lPart, lNext, lIt, lRng1, lRng2, lAsg, lPar, lSetI, lSetA, lAugS, lLc, lZip, lNeg, lCall, lChain, List.getElem?_cons_zero, List.getElem?_cons_succ, List.set_cons_zero, List.set_cons_succ, wipeE, intP, intE, lCall]
      refine ⟨b, rm, _, rfl, em14, by simpa using mNe, by rw [List.length_map, sizeL]; omega, rmb, B14, fun v h15 hv k15 B15 => ?_⟩
      obtain ⟨c, hc, rfl⟩ := List.mem_map.mp hv
      have hc3 := mOk c hc
      try simp only [List.set_cons_zero, List.set_cons_succ]
      unfold t_law_k97_3b_3b_1
      rw [lDrop]
      simp only [lSet, lRet, lRetN, lDrop, lOp, lVar, lC, lB, lT, lAnd, lOr, lNot, lIf, lAndV, lOrV, lNotV, lNil, lCons, lTup, lLst, lCB, lBM, lSl, lPart, lNext, lIt, lRng1, lRng2, lAsg, lPar, lSetI, lSetA, lAugS, lLc, lZip, lNeg, lCall, lChain, List.getElem?_cons_zero, List.getElem?_cons_succ, List.set_cons_zero, List.set_cons_succ, wipeE, intP, intE]
      have eu15 := k15.other eu14 (by omega)
      have eA15 := k15.other eA14 Ab
      refine ⟨isTy_l eu15, ?_⟩
      -- one unit more
      have put : ∀ (y : Un) (h16 : EH), (∀ x, y = .p x → LetOk x) → Keep (is1 b) h15 h16 → BagAt h16 b → appendE (.ref uu) [y.e] h16 fun _ h1 => kk14 [some (.ref 0), some (.ref b), some (.ref rs), some (.ref rg), some (.int i), some (.ref A), some (.ref rm), some (.ref uu), some (.int k), some (.str [c]), none, none, none, none, none, none] h1 := by
        intro y h16 hy k16 B16
        have eu16 := k16.other eu15 (by omega)
        refine app_f eu16 (by rw [List.length_map]; omega) ?_
        refine hk14 _ _ ⟨us ++ [y], _, _, rfl, by simp; omega, fun x hx => ?_, B16.set uub, ((k14.trans k15).trans k16).fresh (by omega), by rw [set_at eu16, List.map_append]; rfl⟩
        rcases List.mem_append.mp hx with hx | hx
        · exact lu x hx
        · exact hy x (List.mem_singleton.mp hx).symm
      refine eq_s ?_
      rcases hc3 with rfl | rfl | rfl
      · simp only [show decide (([107] : List Nat) = [112]) = false from rfl, Bool.false_xor, Bool.false_eq_true, if_false]
        exact ⟨by simp [sizeL], put .k h15 (fun x e => by cases e) .refl B15⟩
      · simp only [show decide (([100] : List Nat) = [112]) = false from rfl, Bool.false_xor, Bool.false_eq_true, if_false]
        exact ⟨by simp [sizeL], put .d h15 (fun x e => by cases e) .refl B15⟩
      · simp only [decide_true, Bool.false_xor, if_true]
        refine ⟨b, A, _, rfl, eA15, by simpa using nsn, by rw [List.length_map]; omega, Ab, B15, fun v h16 hv k16 B16 => ?_⟩
        obtain ⟨x, hx, rfl⟩ := List.mem_map.mp hv
        exact ⟨by simp [sizeL], put (.p x) h16 (fun y e => by cases e; exact nr x hx) k16 B16⟩
end Y

namespace Y
open PySem PySem.Spec PyProof.Rows L2
def top (i : Nat) : Stmt := PySem.Challenge.pw_saidearly_k97_whole_streams_written_and.main.body.getD i (.Pass ⟨0, 0, 0, 0⟩)
abbrev s_is_integer : Stmt := top 6
abbrev s_is_between : Stmt := top 7
abbrev s_is_letter : Stmt := top 8
abbrev s_is_text : Stmt := top 9
abbrev s_is_deed : Stmt := top 15
abbrev s_joined : Stmt := top 16
abbrev s_deeds_of : Stmt := top 17
abbrev s_number_in : Stmt := top 21
abbrev s_line_of : Stmt := top 22
abbrev s_deed_in : Stmt := top 23
abbrev s_written : Stmt := top 24
abbrev s_read__X : Stmt := top 25
abbrev s_need_letters__X : Stmt := top 26
abbrev s_Writer___init__ : Stmt := inClass (top 27) 1
abbrev s_Writer_say__X : Stmt := inClass (top 27) 2
abbrev s_Writer_close : Stmt := inClass (top 27) 3
abbrev s__law_bag : Stmt := top 29
abbrev s__law_take : Stmt := top 30
abbrev s__law_one : Stmt := top 31
abbrev s__law_mixed : Stmt := top 32
abbrev s__law_alphabet : Stmt := top 33
abbrev s__law_full : Stmt := top 34
abbrev s__law_alike : Stmt := top 35
abbrev s__law_packed : Stmt := top 36
abbrev s__law_line : Stmt := top 37
abbrev s__law_lines : Stmt := top 38
abbrev s__law_number : Stmt := top 39
abbrev s__law_deed : Stmt := top 40
abbrev s__law_reading : Stmt := top 41
abbrev s__law_read : Stmt := top 42
abbrev s__law_bent : Stmt := top 43
abbrev s__law_texts_right : Stmt := top 44
abbrev s__law_said : Stmt := top 45
abbrev s__law_say_right : Stmt := top 46
abbrev s_law : Stmt := top 47
abbrev M_is_integer : List Str := ["thing"]
abbrev M_is_between : List Str := ["thing", "low", "high"]
abbrev M_is_letter : List Str := ["thing"]
abbrev M_is_text : List Str := ["thing", "one"]
abbrev M_is_deed : List Str := ["thing"]
abbrev M_joined : List Str := ["deeds", "found", "word", "what"]
abbrev M_deeds_of : List Str := ["steps", "text", "found", "at", "step"]
abbrev M_number_in : List Str := ["word", "sign"]
abbrev M_line_of : List Str := ["deed", "numbers", "number"]
abbrev M_deed_in : List Str := ["line", "words", "numbers", "found", "word"]
abbrev M_written : List Str := ["delta", "deed"]
abbrev M_read__X : List Str := ["text", "lines", "found", "number", "line", "deed"]
abbrev M_need_letters__X : List Str := ["steps", "text", "many", "index", "step"]
abbrev M_Writer___init__ : List Str := ["self"]
abbrev M_Writer_say__X : List Str := ["self", "steps", "text", "deeds"]
abbrev M_Writer_close : List Str := ["self", "found"]
abbrev M__law_bag : List Str := ["_law_script", "_law_cell"]
abbrev M__law_take : List Str := ["_law_bag_here", "_law_many", "_law_cell", "_law_mixed_here", "_law_drawn", "_law_early", "_law_second"]
abbrev M__law_one : List Str := ["_law_bag_here", "_law_some"]
abbrev M__law_mixed : List Str := ["_law_bag_here", "_law_things", "_law_found", "_law_thing"]
abbrev M__law_alphabet : List Str := ["_law_bag_here"]
abbrev M__law_full : List Str := ["_law_bag_here", "_law_letters", "_law_size", "_law_k"]
abbrev M__law_alike : List Str := ["_law_found", "_law_due"]
abbrev M__law_packed : List Str := ["_law_units", "_law_words", "_law_found", "_law_unit", "_law_word", "_law_more"]
abbrev M__law_line : List Str := ["_law_deed_here", "_law_letter"]
abbrev M__law_lines : List Str := ["_law_delta", "_law_deed_here"]
abbrev M__law_number : List Str := ["_law_word", "_law_sign"]
abbrev M__law_deed : List Str := ["_law_line_here", "_law_words", "_law_numbers", "_law_word", "_law_one_here"]
abbrev M__law_reading : List Str := ["_law_text", "_law_lines_here", "_law_found", "_law_at", "_law_deed_here"]
abbrev M__law_read : List Str := ["_law_text", "_law_found", "e"]
abbrev M__law_bent : List Str := ["_law_bag_here", "_law_text", "_law_some", "_law_k", "_law_at", "_law_gone"]
abbrev M__law_texts_right : List Str := ["_law_bag_here", "_law_delta", "_law_text", "_law_again", "_law_found", "_law_some", "_law_one_here", "_law_k"]
abbrev M__law_said : List Str := ["_law_writer", "_law_steps", "_law_text", "_law_found", "e"]
abbrev M__law_say_right : List Str := ["_law_bag_here", "_law_writer", "_law_units", "_law_at", "_law_end", "_law_letters", "_law_part", "_law_steps", "_law_text", "_law_wrong", "_law_less", "_law_spots", "_law_elder", "_law_newer", "_law_unit", "_law_index"]
abbrev M_law : List Str := ["_law_script", "_law_bag_here", "_law_rows", "_law_great", "_law_turn", "_law_letters", "_law_menu", "_law_units", "_law_k", "_law_step", "_law_again", "_law_row", "_law_writer", "_law_at", "_law_end", "_law_last"]

abbrev FnP (K : PySem.W.Frag) (x q : Str) (st : Stmt) (f : Addr) (fd : FuncData) : Prop := FunD K x q (defArgs st) (defBody st) (defScope st) [] [] f fd
structure Fs (P : Program) (w : World) (K : PySem.W.Frag) (mg : Str → Option Value) : Type where
  ad : Ad
  f_is_integer : Addr
  d_is_integer : FuncData
  F_is_integer : FnP K "is_integer" "is_integer" s_is_integer f_is_integer d_is_integer
  g_is_integer : mg "is_integer" = some (.ref f_is_integer)
  f_is_between : Addr
  d_is_between : FuncData
  F_is_between : FnP K "is_between" "is_between" s_is_between f_is_between d_is_between
  g_is_between : mg "is_between" = some (.ref f_is_between)
  f_is_letter : Addr
  d_is_letter : FuncData
  F_is_letter : FnP K "is_letter" "is_letter" s_is_letter f_is_letter d_is_letter
  g_is_letter : mg "is_letter" = some (.ref f_is_letter)
  f_is_text : Addr
  d_is_text : FuncData
  F_is_text : FnP K "is_text" "is_text" s_is_text f_is_text d_is_text
  g_is_text : mg "is_text" = some (.ref f_is_text)
  f_is_deed : Addr
  d_is_deed : FuncData
  F_is_deed : FnP K "is_deed" "is_deed" s_is_deed f_is_deed d_is_deed
  g_is_deed : mg "is_deed" = some (.ref f_is_deed)
  f_joined : Addr
  d_joined : FuncData
  F_joined : FnP K "joined" "joined" s_joined f_joined d_joined
  g_joined : mg "joined" = some (.ref f_joined)
  f_deeds_of : Addr
  d_deeds_of : FuncData
  F_deeds_of : FnP K "deeds_of" "deeds_of" s_deeds_of f_deeds_of d_deeds_of
  g_deeds_of : mg "deeds_of" = some (.ref f_deeds_of)
  f_number_in : Addr
  d_number_in : FuncData
  F_number_in : FnP K "number_in" "number_in" s_number_in f_number_in d_number_in
  g_number_in : mg "number_in" = some (.ref f_number_in)
  f_line_of : Addr
  d_line_of : FuncData
  F_line_of : FnP K "line_of" "line_of" s_line_of f_line_of d_line_of
  g_line_of : mg "line_of" = some (.ref f_line_of)
  f_deed_in : Addr
  d_deed_in : FuncData
  F_deed_in : FnP K "deed_in" "deed_in" s_deed_in f_deed_in d_deed_in
  g_deed_in : mg "deed_in" = some (.ref f_deed_in)
  f_written : Addr
  d_written : FuncData
  F_written : FnP K "written" "written" s_written f_written d_written
  g_written : mg "written" = some (.ref f_written)
  f_read__X : Addr
  d_read__X : FuncData
  F_read__X : FnP K "read" "read" s_read__X f_read__X d_read__X
  g_read__X : mg "read" = some (.ref f_read__X)
  f_need_letters__X : Addr
  d_need_letters__X : FuncData
  F_need_letters__X : FnP K "need_letters" "need_letters" s_need_letters__X f_need_letters__X d_need_letters__X
  g_need_letters__X : mg "need_letters" = some (.ref f_need_letters__X)
  f_Writer___init__ : Addr
  d_Writer___init__ : FuncData
  F_Writer___init__ : FnP K "__init__" "Writer.__init__" s_Writer___init__ f_Writer___init__ d_Writer___init__
  k_Writer : Mk K ad.a_Writer f_Writer___init__
  i_Writer : IsiOk K ad.a_Writer
  f_Writer_say__X : Addr
  d_Writer_say__X : FuncData
  F_Writer_say__X : FnP K "say" "Writer.say" s_Writer_say__X f_Writer_say__X d_Writer_say__X
  m_Writer_say__X : Meth K ad.a_Writer "say" f_Writer_say__X
  f_Writer_close : Addr
  d_Writer_close : FuncData
  F_Writer_close : FnP K "close" "Writer.close" s_Writer_close f_Writer_close d_Writer_close
  m_Writer_close : Meth K ad.a_Writer "close" f_Writer_close
  f__law_bag : Addr
  d__law_bag : FuncData
  F__law_bag : FnP K "_law_bag" "_law_bag" s__law_bag f__law_bag d__law_bag
  g__law_bag : mg "_law_bag" = some (.ref f__law_bag)
  f__law_take : Addr
  d__law_take : FuncData
  F__law_take : FnP K "_law_take" "_law_take" s__law_take f__law_take d__law_take
  g__law_take : mg "_law_take" = some (.ref f__law_take)
  f__law_one : Addr
  d__law_one : FuncData
  F__law_one : FnP K "_law_one" "_law_one" s__law_one f__law_one d__law_one
  g__law_one : mg "_law_one" = some (.ref f__law_one)
  f__law_mixed : Addr
  d__law_mixed : FuncData
  F__law_mixed : FnP K "_law_mixed" "_law_mixed" s__law_mixed f__law_mixed d__law_mixed
  g__law_mixed : mg "_law_mixed" = some (.ref f__law_mixed)
  f__law_alphabet : Addr
  d__law_alphabet : FuncData
  F__law_alphabet : FnP K "_law_alphabet" "_law_alphabet" s__law_alphabet f__law_alphabet d__law_alphabet
  g__law_alphabet : mg "_law_alphabet" = some (.ref f__law_alphabet)
  f__law_full : Addr
  d__law_full : FuncData
  F__law_full : FnP K "_law_full" "_law_full" s__law_full f__law_full d__law_full
  g__law_full : mg "_law_full" = some (.ref f__law_full)
  f__law_alike : Addr
  d__law_alike : FuncData
  F__law_alike : FnP K "_law_alike" "_law_alike" s__law_alike f__law_alike d__law_alike
  g__law_alike : mg "_law_alike" = some (.ref f__law_alike)
  f__law_packed : Addr
  d__law_packed : FuncData
  F__law_packed : FnP K "_law_packed" "_law_packed" s__law_packed f__law_packed d__law_packed
  g__law_packed : mg "_law_packed" = some (.ref f__law_packed)
  f__law_line : Addr
  d__law_line : FuncData
  F__law_line : FnP K "_law_line" "_law_line" s__law_line f__law_line d__law_line
  g__law_line : mg "_law_line" = some (.ref f__law_line)
  f__law_lines : Addr
  d__law_lines : FuncData
  F__law_lines : FnP K "_law_lines" "_law_lines" s__law_lines f__law_lines d__law_lines
  g__law_lines : mg "_law_lines" = some (.ref f__law_lines)
  f__law_number : Addr
  d__law_number : FuncData
  F__law_number : FnP K "_law_number" "_law_number" s__law_number f__law_number d__law_number
  g__law_number : mg "_law_number" = some (.ref f__law_number)
  f__law_deed : Addr
  d__law_deed : FuncData
  F__law_deed : FnP K "_law_deed" "_law_deed" s__law_deed f__law_deed d__law_deed
  g__law_deed : mg "_law_deed" = some (.ref f__law_deed)
  f__law_reading : Addr
  d__law_reading : FuncData
  F__law_reading : FnP K "_law_reading" "_law_reading" s__law_reading f__law_reading d__law_reading
  g__law_reading : mg "_law_reading" = some (.ref f__law_reading)
  f__law_read : Addr
  d__law_read : FuncData
  F__law_read : FnP K "_law_read" "_law_read" s__law_read f__law_read d__law_read
  g__law_read : mg "_law_read" = some (.ref f__law_read)
  f__law_bent : Addr
  d__law_bent : FuncData
  F__law_bent : FnP K "_law_bent" "_law_bent" s__law_bent f__law_bent d__law_bent
  g__law_bent : mg "_law_bent" = some (.ref f__law_bent)
  f__law_texts_right : Addr
  d__law_texts_right : FuncData
  F__law_texts_right : FnP K "_law_texts_right" "_law_texts_right" s__law_texts_right f__law_texts_right d__law_texts_right
  g__law_texts_right : mg "_law_texts_right" = some (.ref f__law_texts_right)
  f__law_said : Addr
  d__law_said : FuncData
  F__law_said : FnP K "_law_said" "_law_said" s__law_said f__law_said d__law_said
  g__law_said : mg "_law_said" = some (.ref f__law_said)
  f__law_say_right : Addr
  d__law_say_right : FuncData
  F__law_say_right : FnP K "_law_say_right" "_law_say_right" s__law_say_right f__law_say_right d__law_say_right
  g__law_say_right : mg "_law_say_right" = some (.ref f__law_say_right)
  f_law : Addr
  d_law : FuncData
  F_law : FnP K "law" "law" s_law f_law d_law
  g_law : mg "law" = some (.ref f_law)
  g_Writer : mg "Writer" = some (.ref ad.a_Writer)
  sc_Writer : SlX.SCls K ad.a_Writer
  s_Writer_its_last : ∃ p, SlX.Slot1 K ad.a_Writer "its_last" p 0
  g_BadLine : mg "BadLine" = some (.ref ad.a_BadLine)
  x_BadLine : ExcC P K ad.a_BadLine "line" "line"
  g_NotAScript : mg "NotAScript" = some (.ref ad.a_NotAScript)
  x_NotAScript : ExcC P K ad.a_NotAScript "index" "index"
  e_BadLine_BadLine : PySem.W.exmOne K (.ref ad.a_BadLine) (.ref ad.a_BadLine) = some true
  e_NotAScript_NotAScript : PySem.W.exmOne K (.ref ad.a_NotAScript) (.ref ad.a_NotAScript) = some true
  n_abs : mg "abs" = none
  n_all : mg "all" = none
  n_bool : mg "bool" = none
  n_enumerate : mg "enumerate" = none
  n_int : mg "int" = none
  n_isinstance : mg "isinstance" = none
  n_len : mg "len" = none
  n_min : mg "min" = none
  n_range : mg "range" = none
  n_repr : mg "repr" = none
  n_str : mg "str" = none
  n_tuple : mg "tuple" = none
  c_DIGITS : ∃ t, mg "DIGITS" = some (.str (S [48, 49, 50, 51, 52, 53, 54, 55, 56, 57]) t)
  c_DROP : ∃ t, mg "DROP" = some (.str (S [100, 114, 111, 112]) t)
  c_GREATEST_LETTER : ∃ t, mg "GREATEST_LETTER" = some (.int 1000000000 t)
  c_KEEP : ∃ t, mg "KEEP" = some (.str (S [107, 101, 101, 112]) t)
  c_LONGEST : ∃ t, mg "LONGEST" = some (.int 10 t)
  c_PUT : ∃ t, mg "PUT" = some (.str (S [112, 117, 116]) t)
  g_WORD_OF : mg "WORD_OF" = some (.ref ad.a_WORD_OF)
  T_WORD_OF : KTab K w ad.a_WORD_OF [([107], [107, 101, 101, 112]), ([100], [100, 114, 111, 112])]
  N_WORD_OF : KNo K w ad.a_WORD_OF [[112]]
theorem sc_is_integer : FnScope M_is_integer ["thing"] (defScope s_is_integer) := ⟨rfl, rfl, rfl, by decide +kernel, rfl, by decide +kernel, by decide +kernel⟩
theorem b_is_integer {K : PySem.W.Frag} {f : Addr} {fd : FuncData} (F : FnP K "is_integer" "is_integer" s_is_integer f fd) : Binds K fd ["thing"] [] := F.bindsN fun _ _ _ _ _ _ us hl => match us, hl with | [_], _ => rfl
theorem sc_is_between : FnScope M_is_between ["thing", "low", "high"] (defScope s_is_between) := ⟨rfl, rfl, rfl, by decide +kernel, rfl, by decide +kernel, by decide +kernel⟩
theorem b_is_between {K : PySem.W.Frag} {f : Addr} {fd : FuncData} (F : FnP K "is_between" "is_between" s_is_between f fd) : Binds K fd ["thing", "low", "high"] [] := F.bindsN fun _ _ _ _ _ _ us hl => match us, hl with | [_, _, _], _ => rfl
theorem sc_is_letter : FnScope M_is_letter ["thing"] (defScope s_is_letter) := ⟨rfl, rfl, rfl, by decide +kernel, rfl, by decide +kernel, by decide +kernel⟩
theorem b_is_letter {K : PySem.W.Frag} {f : Addr} {fd : FuncData} (F : FnP K "is_letter" "is_letter" s_is_letter f fd) : Binds K fd ["thing"] [] := F.bindsN fun _ _ _ _ _ _ us hl => match us, hl with | [_], _ => rfl
theorem sc_is_text : FnScope M_is_text ["thing"] (defScope s_is_text) := ⟨rfl, rfl, rfl, by decide +kernel, rfl, by decide +kernel, by decide +kernel⟩
theorem b_is_text {K : PySem.W.Frag} {f : Addr} {fd : FuncData} (F : FnP K "is_text" "is_text" s_is_text f fd) : Binds K fd ["thing"] [] := F.bindsN fun _ _ _ _ _ _ us hl => match us, hl with | [_], _ => rfl
theorem sc_is_deed : FnScope M_is_deed ["thing"] (defScope s_is_deed) := ⟨rfl, rfl, rfl, by decide +kernel, rfl, by decide +kernel, by decide +kernel⟩
theorem b_is_deed {K : PySem.W.Frag} {f : Addr} {fd : FuncData} (F : FnP K "is_deed" "is_deed" s_is_deed f fd) : Binds K fd ["thing"] [] := F.bindsN fun _ _ _ _ _ _ us hl => match us, hl with | [_], _ => rfl
theorem sc_joined : FnScope M_joined ["deeds"] (defScope s_joined) := ⟨rfl, rfl, rfl, by decide +kernel, rfl, by decide +kernel, by decide +kernel⟩
theorem b_joined {K : PySem.W.Frag} {f : Addr} {fd : FuncData} (F : FnP K "joined" "joined" s_joined f fd) : Binds K fd ["deeds"] [] := F.bindsN fun _ _ _ _ _ _ us hl => match us, hl with | [_], _ => rfl
theorem sc_deeds_of : FnScope M_deeds_of ["steps", "text"] (defScope s_deeds_of) := ⟨rfl, rfl, rfl, by decide +kernel, rfl, by decide +kernel, by decide +kernel⟩
theorem b_deeds_of {K : PySem.W.Frag} {f : Addr} {fd : FuncData} (F : FnP K "deeds_of" "deeds_of" s_deeds_of f fd) : Binds K fd ["steps", "text"] [] := F.bindsN fun _ _ _ _ _ _ us hl => match us, hl with | [_, _], _ => rfl
theorem sc_number_in : FnScope M_number_in ["word"] (defScope s_number_in) := ⟨rfl, rfl, rfl, by decide +kernel, rfl, by decide +kernel, by decide +kernel⟩
theorem b_number_in {K : PySem.W.Frag} {f : Addr} {fd : FuncData} (F : FnP K "number_in" "number_in" s_number_in f fd) : Binds K fd ["word"] [] := F.bindsN fun _ _ _ _ _ _ us hl => match us, hl with | [_], _ => rfl
theorem sc_line_of : FnScope M_line_of ["deed"] (defScope s_line_of) := ⟨rfl, rfl, rfl, by decide +kernel, rfl, by decide +kernel, by decide +kernel⟩
theorem b_line_of {K : PySem.W.Frag} {f : Addr} {fd : FuncData} (F : FnP K "line_of" "line_of" s_line_of f fd) : Binds K fd ["deed"] [] := F.bindsN fun _ _ _ _ _ _ us hl => match us, hl with | [_], _ => rfl
theorem sc_deed_in : FnScope M_deed_in ["line"] (defScope s_deed_in) := ⟨rfl, rfl, rfl, by decide +kernel, rfl, by decide +kernel, by decide +kernel⟩
theorem b_deed_in {K : PySem.W.Frag} {f : Addr} {fd : FuncData} (F : FnP K "deed_in" "deed_in" s_deed_in f fd) : Binds K fd ["line"] [] := F.bindsN fun _ _ _ _ _ _ us hl => match us, hl with | [_], _ => rfl
theorem sc_written : FnScope M_written ["delta"] (defScope s_written) := ⟨rfl, rfl, rfl, by decide +kernel, rfl, by decide +kernel, by decide +kernel⟩
theorem b_written {K : PySem.W.Frag} {f : Addr} {fd : FuncData} (F : FnP K "written" "written" s_written f fd) : Binds K fd ["delta"] [] := F.bindsN fun _ _ _ _ _ _ us hl => match us, hl with | [_], _ => rfl
theorem sc_read__X : FnScope M_read__X ["text"] (defScope s_read__X) := ⟨rfl, rfl, rfl, by decide +kernel, rfl, by decide +kernel, by decide +kernel⟩
theorem b_read__X {K : PySem.W.Frag} {f : Addr} {fd : FuncData} (F : FnP K "read" "read" s_read__X f fd) : Binds K fd ["text"] [] := F.bindsN fun _ _ _ _ _ _ us hl => match us, hl with | [_], _ => rfl
theorem sc_need_letters__X : FnScope M_need_letters__X ["steps", "text"] (defScope s_need_letters__X) := ⟨rfl, rfl, rfl, by decide +kernel, rfl, by decide +kernel, by decide +kernel⟩
theorem b_need_letters__X {K : PySem.W.Frag} {f : Addr} {fd : FuncData} (F : FnP K "need_letters" "need_letters" s_need_letters__X f fd) : Binds K fd ["steps", "text"] [] := F.bindsN fun _ _ _ _ _ _ us hl => match us, hl with | [_, _], _ => rfl
theorem sc_Writer___init__ : FnScope M_Writer___init__ ["self"] (defScope s_Writer___init__) := ⟨rfl, rfl, rfl, by decide +kernel, rfl, by decide +kernel, by decide +kernel⟩
theorem b_Writer___init__ {K : PySem.W.Frag} {f : Addr} {fd : FuncData} (F : FnP K "__init__" "Writer.__init__" s_Writer___init__ f fd) : Binds K fd ["self"] [] := F.bindsN fun _ _ _ _ _ _ us hl => match us, hl with | [_], _ => rfl
theorem sc_Writer_say__X : FnScope M_Writer_say__X ["self", "steps", "text"] (defScope s_Writer_say__X) := ⟨rfl, rfl, rfl, by decide +kernel, rfl, by decide +kernel, by decide +kernel⟩
theorem b_Writer_say__X {K : PySem.W.Frag} {f : Addr} {fd : FuncData} (F : FnP K "say" "Writer.say" s_Writer_say__X f fd) : Binds K fd ["self", "steps", "text"] [] := F.bindsN fun _ _ _ _ _ _ us hl => match us, hl with | [_, _, _], _ => rfl
theorem sc_Writer_close : FnScope M_Writer_close ["self"] (defScope s_Writer_close) := ⟨rfl, rfl, rfl, by decide +kernel, rfl, by decide +kernel, by decide +kernel⟩
theorem b_Writer_close {K : PySem.W.Frag} {f : Addr} {fd : FuncData} (F : FnP K "close" "Writer.close" s_Writer_close f fd) : Binds K fd ["self"] [] := F.bindsN fun _ _ _ _ _ _ us hl => match us, hl with | [_], _ => rfl
theorem sc__law_bag : FnScope M__law_bag ["_law_script"] (defScope s__law_bag) := ⟨rfl, rfl, rfl, by decide +kernel, rfl, by decide +kernel, by decide +kernel⟩
theorem b__law_bag {K : PySem.W.Frag} {f : Addr} {fd : FuncData} (F : FnP K "_law_bag" "_law_bag" s__law_bag f fd) : Binds K fd ["_law_script"] [] := F.bindsN fun _ _ _ _ _ _ us hl => match us, hl with | [_], _ => rfl
theorem sc__law_take : FnScope M__law_take ["_law_bag_here", "_law_many"] (defScope s__law_take) := ⟨rfl, rfl, rfl, by decide +kernel, rfl, by decide +kernel, by decide +kernel⟩
theorem b__law_take {K : PySem.W.Frag} {f : Addr} {fd : FuncData} (F : FnP K "_law_take" "_law_take" s__law_take f fd) : Binds K fd ["_law_bag_here", "_law_many"] [] := F.bindsN fun _ _ _ _ _ _ us hl => match us, hl with | [_, _], _ => rfl
theorem sc__law_one : FnScope M__law_one ["_law_bag_here", "_law_some"] (defScope s__law_one) := ⟨rfl, rfl, rfl, by decide +kernel, rfl, by decide +kernel, by decide +kernel⟩
theorem b__law_one {K : PySem.W.Frag} {f : Addr} {fd : FuncData} (F : FnP K "_law_one" "_law_one" s__law_one f fd) : Binds K fd ["_law_bag_here", "_law_some"] [] := F.bindsN fun _ _ _ _ _ _ us hl => match us, hl with | [_, _], _ => rfl
theorem sc__law_mixed : FnScope M__law_mixed ["_law_bag_here", "_law_things"] (defScope s__law_mixed) := ⟨rfl, rfl, rfl, by decide +kernel, rfl, by decide +kernel, by decide +kernel⟩
theorem b__law_mixed {K : PySem.W.Frag} {f : Addr} {fd : FuncData} (F : FnP K "_law_mixed" "_law_mixed" s__law_mixed f fd) : Binds K fd ["_law_bag_here", "_law_things"] [] := F.bindsN fun _ _ _ _ _ _ us hl => match us, hl with | [_, _], _ => rfl
theorem sc__law_alphabet : FnScope M__law_alphabet ["_law_bag_here"] (defScope s__law_alphabet) := ⟨rfl, rfl, rfl, by decide +kernel, rfl, by decide +kernel, by decide +kernel⟩
theorem b__law_alphabet {K : PySem.W.Frag} {f : Addr} {fd : FuncData} (F : FnP K "_law_alphabet" "_law_alphabet" s__law_alphabet f fd) : Binds K fd ["_law_bag_here"] [] := F.bindsN fun _ _ _ _ _ _ us hl => match us, hl with | [_], _ => rfl
theorem sc__law_full : FnScope M__law_full ["_law_bag_here", "_law_letters", "_law_size"] (defScope s__law_full) := ⟨rfl, rfl, rfl, by decide +kernel, rfl, by decide +kernel, by decide +kernel⟩
theorem b__law_full {K : PySem.W.Frag} {f : Addr} {fd : FuncData} (F : FnP K "_law_full" "_law_full" s__law_full f fd) : Binds K fd ["_law_bag_here", "_law_letters", "_law_size"] [] := F.bindsN fun _ _ _ _ _ _ us hl => match us, hl with | [_, _, _], _ => rfl
theorem sc__law_alike : FnScope M__law_alike ["_law_found", "_law_due"] (defScope s__law_alike) := ⟨rfl, rfl, rfl, by decide +kernel, rfl, by decide +kernel, by decide +kernel⟩
theorem b__law_alike {K : PySem.W.Frag} {f : Addr} {fd : FuncData} (F : FnP K "_law_alike" "_law_alike" s__law_alike f fd) : Binds K fd ["_law_found", "_law_due"] [] := F.bindsN fun _ _ _ _ _ _ us hl => match us, hl with | [_, _], _ => rfl
theorem sc__law_packed : FnScope M__law_packed ["_law_units"] (defScope s__law_packed) := ⟨rfl, rfl, rfl, by decide +kernel, rfl, by decide +kernel, by decide +kernel⟩
theorem b__law_packed {K : PySem.W.Frag} {f : Addr} {fd : FuncData} (F : FnP K "_law_packed" "_law_packed" s__law_packed f fd) : Binds K fd ["_law_units"] [] := F.bindsN fun _ _ _ _ _ _ us hl => match us, hl with | [_], _ => rfl
theorem sc__law_line : FnScope M__law_line ["_law_deed_here"] (defScope s__law_line) := ⟨rfl, rfl, rfl, by decide +kernel, rfl, by decide +kernel, by decide +kernel⟩
theorem b__law_line {K : PySem.W.Frag} {f : Addr} {fd : FuncData} (F : FnP K "_law_line" "_law_line" s__law_line f fd) : Binds K fd ["_law_deed_here"] [] := F.bindsN fun _ _ _ _ _ _ us hl => match us, hl with | [_], _ => rfl
theorem sc__law_lines : FnScope M__law_lines ["_law_delta"] (defScope s__law_lines) := ⟨rfl, rfl, rfl, by decide +kernel, rfl, by decide +kernel, by decide +kernel⟩
theorem b__law_lines {K : PySem.W.Frag} {f : Addr} {fd : FuncData} (F : FnP K "_law_lines" "_law_lines" s__law_lines f fd) : Binds K fd ["_law_delta"] [] := F.bindsN fun _ _ _ _ _ _ us hl => match us, hl with | [_], _ => rfl
theorem sc__law_number : FnScope M__law_number ["_law_word"] (defScope s__law_number) := ⟨rfl, rfl, rfl, by decide +kernel, rfl, by decide +kernel, by decide +kernel⟩
theorem b__law_number {K : PySem.W.Frag} {f : Addr} {fd : FuncData} (F : FnP K "_law_number" "_law_number" s__law_number f fd) : Binds K fd ["_law_word"] [] := F.bindsN fun _ _ _ _ _ _ us hl => match us, hl with | [_], _ => rfl
theorem sc__law_deed : FnScope M__law_deed ["_law_line_here"] (defScope s__law_deed) := ⟨rfl, rfl, rfl, by decide +kernel, rfl, by decide +kernel, by decide +kernel⟩
theorem b__law_deed {K : PySem.W.Frag} {f : Addr} {fd : FuncData} (F : FnP K "_law_deed" "_law_deed" s__law_deed f fd) : Binds K fd ["_law_line_here"] [] := F.bindsN fun _ _ _ _ _ _ us hl => match us, hl with | [_], _ => rfl
theorem sc__law_reading : FnScope M__law_reading ["_law_text"] (defScope s__law_reading) := ⟨rfl, rfl, rfl, by decide +kernel, rfl, by decide +kernel, by decide +kernel⟩
theorem b__law_reading {K : PySem.W.Frag} {f : Addr} {fd : FuncData} (F : FnP K "_law_reading" "_law_reading" s__law_reading f fd) : Binds K fd ["_law_text"] [] := F.bindsN fun _ _ _ _ _ _ us hl => match us, hl with | [_], _ => rfl
theorem sc__law_read : FnScope M__law_read ["_law_text"] (defScope s__law_read) := ⟨rfl, rfl, rfl, by decide +kernel, rfl, by decide +kernel, by decide +kernel⟩
theorem b__law_read {K : PySem.W.Frag} {f : Addr} {fd : FuncData} (F : FnP K "_law_read" "_law_read" s__law_read f fd) : Binds K fd ["_law_text"] [] := F.bindsN fun _ _ _ _ _ _ us hl => match us, hl with | [_], _ => rfl
theorem sc__law_bent : FnScope M__law_bent ["_law_bag_here", "_law_text"] (defScope s__law_bent) := ⟨rfl, rfl, rfl, by decide +kernel, rfl, by decide +kernel, by decide +kernel⟩
theorem b__law_bent {K : PySem.W.Frag} {f : Addr} {fd : FuncData} (F : FnP K "_law_bent" "_law_bent" s__law_bent f fd) : Binds K fd ["_law_bag_here", "_law_text"] [] := F.bindsN fun _ _ _ _ _ _ us hl => match us, hl with | [_, _], _ => rfl
theorem sc__law_texts_right : FnScope M__law_texts_right ["_law_bag_here", "_law_delta"] (defScope s__law_texts_right) := ⟨rfl, rfl, rfl, by decide +kernel, rfl, by decide +kernel, by decide +kernel⟩
theorem b__law_texts_right {K : PySem.W.Frag} {f : Addr} {fd : FuncData} (F : FnP K "_law_texts_right" "_law_texts_right" s__law_texts_right f fd) : Binds K fd ["_law_bag_here", "_law_delta"] [] := F.bindsN fun _ _ _ _ _ _ us hl => match us, hl with | [_, _], _ => rfl
theorem sc__law_said : FnScope M__law_said ["_law_writer", "_law_steps", "_law_text"] (defScope s__law_said) := ⟨rfl, rfl, rfl, by decide +kernel, rfl, by decide +kernel, by decide +kernel⟩
theorem b__law_said {K : PySem.W.Frag} {f : Addr} {fd : FuncData} (F : FnP K "_law_said" "_law_said" s__law_said f fd) : Binds K fd ["_law_writer", "_law_steps", "_law_text"] [] := F.bindsN fun _ _ _ _ _ _ us hl => match us, hl with | [_, _, _], _ => rfl
theorem sc__law_say_right : FnScope M__law_say_right ["_law_bag_here", "_law_writer", "_law_units", "_law_at", "_law_end", "_law_letters"] (defScope s__law_say_right) := ⟨rfl, rfl, rfl, by decide +kernel, rfl, by decide +kernel, by decide +kernel⟩
theorem b__law_say_right {K : PySem.W.Frag} {f : Addr} {fd : FuncData} (F : FnP K "_law_say_right" "_law_say_right" s__law_say_right f fd) : Binds K fd ["_law_bag_here", "_law_writer", "_law_units", "_law_at", "_law_end", "_law_letters"] [] := F.bindsN fun _ _ _ _ _ _ us hl => match us, hl with | [_, _, _, _, _, _], _ => rfl
theorem sc_law : FnScope M_law ["_law_script"] (defScope s_law) := ⟨rfl, rfl, rfl, by decide +kernel, rfl, by decide +kernel, by decide +kernel⟩
section
variable {P : Program} {w : World} {K : PySem.W.Frag} {mg : Str → Option Value} {base : Heap}
theorem der_is_integer (T : Fs P w K mg) {f : Addr} {cdv : Value} {A : Around} {outer : List Env} {s : Shared} {H : Hp} (hr : Room 0 (A.deeper (envOfC "is_integer" (defScope s_is_integer) s.heap.objs.size f cdv))) (hG : (A.deeper (envOfC "is_integer" (defScope s_is_integer) s.heap.objs.size f cdv)).guards = some []) :
    LSs (cxOf CX0 P w K mg base M_is_integer "is_integer" (defScope s_is_integer) f cdv A outer s H E0).nox (defBody s_is_integer) (t_is_integer T.ad) :=
    lss_one (ls_ret (le_and (le_callB lc_isi rfl T.n_isinstance boot_isinstance (la_cons (le_var 0) (la_cons (le_bty "int" rfl T.n_int boot_int) (la_nil)))) (le_one (le_not (le_callB lc_isi rfl T.n_isinstance boot_isinstance (la_cons (le_var 0) (la_cons (le_bty "bool" rfl T.n_bool boot_bool) (la_nil))))))))
theorem der_is_between (T : Fs P w K mg) (O_is_integer : FnG P w K mg base 1 T.f_is_integer T.d_is_integer ["thing"] (sp_is_integer T.ad)) {f : Addr} {cdv : Value} {A : Around} {outer : List Env} {s : Shared} {H : Hp} (hr : Room 1 (A.deeper (envOfC "is_between" (defScope s_is_between) s.heap.objs.size f cdv))) (hG : (A.deeper (envOfC "is_between" (defScope s_is_between) s.heap.objs.size f cdv)).guards = some []) :
    LSs (cxOf CX0 P w K mg base M_is_between "is_between" (defScope s_is_between) f cdv A outer s H E0).nox (defBody s_is_between) (t_is_between T.ad) :=
    lss_one (ls_ret (le_and (le_call O_is_integer (hr.mono (by decide)) hG rfl T.g_is_integer T.F_is_integer.kp (b_is_integer T.F_is_integer) (la_cons (le_var 0) (la_nil))) (le_one (le_chain lo_le lo_le (le_var 1) (le_var 0) (le_var 2)))))
theorem der_is_letter (T : Fs P w K mg) (O_is_between : FnG P w K mg base 2 T.f_is_between T.d_is_between ["thing", "low", "high"] (sp_is_between T.ad)) {f : Addr} {cdv : Value} {A : Around} {outer : List Env} {s : Shared} {H : Hp} (hr : Room 2 (A.deeper (envOfC "is_letter" (defScope s_is_letter) s.heap.objs.size f cdv))) (hG : (A.deeper (envOfC "is_letter" (defScope s_is_letter) s.heap.objs.size f cdv)).guards = some []) :
    LSs (cxOf CX0 P w K mg base M_is_letter "is_letter" (defScope s_is_letter) f cdv A outer s H E0).nox (defBody s_is_letter) (t_is_letter T.ad) :=
    lss_one (ls_ret (le_call O_is_between (hr.mono (by decide)) hG rfl T.g_is_between T.F_is_between.kp (b_is_between T.F_is_between) (la_cons (le_var 0) (la_cons (le_int) (la_cons (le_gint 1000000000 rfl T.c_GREATEST_LETTER) (la_nil))))))
theorem der_is_text (T : Fs P w K mg) (O_is_letter : FnG P w K mg base 3 T.f_is_letter T.d_is_letter ["thing"] (sp_is_letter T.ad)) {f : Addr} {cdv : Value} {A : Around} {outer : List Env} {s : Shared} {H : Hp} (hr : Room 3 (A.deeper (envOfC "is_text" (defScope s_is_text) s.heap.objs.size f cdv))) (hG : (A.deeper (envOfC "is_text" (defScope s_is_text) s.heap.objs.size f cdv)).guards = some []) :
    LSs (cxOf CX0 P w K mg base M_is_text "is_text" (defScope s_is_text) f cdv A outer s H E0).nox (defBody s_is_text) (t_is_text_k94 T.ad) :=
    lss_one (ls_ret (le_and (le_callB lc_isi rfl T.n_isinstance boot_isinstance (la_cons (le_var 0) (la_cons (le_bty "tuple" rfl T.n_tuple boot_tuple) (la_nil)))) (le_one (le_callB (lc_all rfl) rfl T.n_all boot_all (la_cons (le_lc [("one", 1)] rfl sc_is_text.nd (lit_any (le_var 0)) (blkOk_by (N := M_is_text) (sc := defScope s_is_text) (by decide +kernel)) (by decide) (fun _ _ _ _ _ => lg_name 1 sc_is_text.nd) (fun _ _ _ _ _ => lts_nil) (fun _ _ _ _ _ => le_call O_is_letter (hr.mono (by decide)) hG rfl T.g_is_letter T.F_is_letter.kp (b_is_letter T.F_is_letter) (la_cons (le_var 1) (la_nil)))) (la_nil))))))
theorem der_is_deed (T : Fs P w K mg) (O_is_between : FnG P w K mg base 2 T.f_is_between T.d_is_between ["thing", "low", "high"] (sp_is_between T.ad)) (O_is_text : FnG P w K mg base 4 T.f_is_text T.d_is_text ["thing"] (sp_is_text_k94 T.ad)) {f : Addr} {cdv : Value} {A : Around} {outer : List Env} {s : Shared} {H : Hp} (hr : Room 4 (A.deeper (envOfC "is_deed" (defScope s_is_deed) s.heap.objs.size f cdv))) (hG : (A.deeper (envOfC "is_deed" (defScope s_is_deed) s.heap.objs.size f cdv)).guards = some []) :
    LSs (cxOf CX0 P w K mg base M_is_deed "is_deed" (defScope s_is_deed) f cdv A outer s H E0).nox (defBody s_is_deed) (t_is_deed_k94 T.ad) :=
    lss_cons (ls_if (LWe.lt (lw_or (lt_not (lt_truth (le_callB lc_isi rfl T.n_isinstance boot_isinstance (la_cons (le_var 0) (la_cons (le_bty "tuple" rfl T.n_tuple boot_tuple) (la_nil)))))) (lw_or (lt_cmp (lo_ne hr.units) (le_callB lc_len rfl T.n_len boot_len (la_cons (le_var 0) (la_nil))) (le_int)) (lw_or1 (lt_not (lt_truth (le_callB lc_isi rfl T.n_isinstance boot_isinstance (la_cons (le_ix (lixA (u1 hr)) (le_var 0) (le_int)) (la_cons (le_bty "str" rfl T.n_str boot_str) (la_nil))))))))))
      (lss_one (ls_ret (le_bl)))
      (lss_nil)) <|
    lss_cons (ls_if (lt_cmp (lo_eq hr.units) (le_ix (lixA (u1 hr)) (le_var 0) (le_int)) (le_gstr [112, 117, 116] rfl T.c_PUT))
      (lss_one (ls_ret (le_and (le_call O_is_text (hr.mono (by decide)) hG rfl T.g_is_text T.F_is_text.kp (b_is_text T.F_is_text) (la_cons (le_ix (lixA (u1 hr)) (le_var 0) (le_int)) (la_nil))) (le_one (le_cmp (lo_ne hr.units) (le_ix (lixA (u1 hr)) (le_var 0) (le_int)) (le_tup (la_nil)))))))
      (lss_nil)) <|
    lss_one (ls_ret (le_and (le_cmp (lo_in (u65 hr)) (le_ix (lixA (u1 hr)) (le_var 0) (le_int)) (le_tup (la_cons (le_gstr [107, 101, 101, 112] rfl T.c_KEEP) (la_cons (le_gstr [100, 114, 111, 112] rfl T.c_DROP) (la_nil))))) (le_one (le_call O_is_between (hr.mono (by decide)) hG rfl T.g_is_between T.F_is_between.kp (b_is_between T.F_is_between) (la_cons (le_ix (lixA (u1 hr)) (le_var 0) (le_int)) (la_cons (le_int) (la_cons (le_gint 1000000000 rfl T.c_GREATEST_LETTER) (la_nil))))))))
theorem der_joined (T : Fs P w K mg) {f : Addr} {cdv : Value} {A : Around} {outer : List Env} {s : Shared} {H : Hp} (hr : Room 0 (A.deeper (envOfC "joined" (defScope s_joined) s.heap.objs.size f cdv))) (hG : (A.deeper (envOfC "joined" (defScope s_joined) s.heap.objs.size f cdv)).guards = some []) :
    LSs (cxOf CX0 P w K mg base M_joined "joined" (defScope s_joined) f cdv A outer s H E0).nox (defBody s_joined) (t_joined_k97 T.ad) :=
    lss_cons (ls_set 1 sc_joined.nd (le_lst (la_nil))) <|
    lss_cons (ls_for PassesOwn.never rfl (lit_any (le_var 0)) (lg_tup rfl (lgs_cons (lg_name 2 sc_joined.nd) (lgs_cons (lg_name 3 sc_joined.nd) (lgs_nil))))
      (lss_one (ls_if (LWe.lt (lw_and (lt_cmp (lo_ne hr.units) (le_var 1) (le_lst (la_nil))) (lw_and1 (lt_cmp (lo_eq hr.units) (le_ix (lixA (u1 hr)) (le_ix (lixA (u1 hr)) (le_var 1) (le_neg (le_int))) (le_int)) (le_var 2)))))
      (lss_one (ls_setA (u1 hr) (le_tup (la_cons (le_var 2) (la_cons (le_op lo_add (le_ix (lixA (u1 hr)) (le_ix (lixA (u1 hr)) (le_var 1) (le_neg (le_int))) (le_int)) (le_var 3)) (la_nil)))) (le_var 1) (le_neg (le_int))))
      (lss_one (ls_expr (le_bm PySem.F.plainAttrs_list PySem.F.slot_list_append PySem.F.type_list_append mt_append lm_append (le_var 1) (la_cons (le_tup (la_cons (le_var 2) (la_cons (le_var 3) (la_nil)))) (la_nil)))))))) <|
    lss_one (ls_ret (le_var 1))
theorem der_deeds_of (T : Fs P w K mg) {f : Addr} {cdv : Value} {A : Around} {outer : List Env} {s : Shared} {H : Hp} (hr : Room 0 (A.deeper (envOfC "deeds_of" (defScope s_deeds_of) s.heap.objs.size f cdv))) (hG : (A.deeper (envOfC "deeds_of" (defScope s_deeds_of) s.heap.objs.size f cdv)).guards = some []) :
    LSs (cxOf CX0 P w K mg base M_deeds_of "deeds_of" (defScope s_deeds_of) f cdv A outer s H E0).nox (defBody s_deeds_of) (t_deeds_of T.ad) :=
    lss_cons (ls_par 2 3 rfl sc_deeds_of.nd (la_cons (le_lst (la_nil)) (la_cons (le_int) (la_nil)))) <|
    lss_cons (ls_for PassesOwn.never rfl (lit_any (le_var 0)) (lg_name 4 sc_deeds_of.nd)
      (lss_one (ls_if (lt_cmp (lo_kin T.T_WORD_OF T.N_WORD_OF) (le_var 4) (le_gref T.ad.a_WORD_OF rfl T.g_WORD_OF))
      (lss_one (ls_expr (le_bm PySem.F.plainAttrs_list PySem.F.slot_list_append PySem.F.type_list_append mt_append lm_append (le_var 2) (la_cons (le_tup (la_cons (le_ix (lix_kd T.T_WORD_OF) (le_gref T.ad.a_WORD_OF rfl T.g_WORD_OF) (le_var 4)) (la_cons (le_int) (la_nil)))) (la_nil)))))
      (lss_cons (ls_expr (le_bm PySem.F.plainAttrs_list PySem.F.slot_list_append PySem.F.type_list_append mt_append lm_append (le_var 2) (la_cons (le_tup (la_cons (le_gstr [112, 117, 116] rfl T.c_PUT) (la_cons (le_tup (la_cons (le_ix (lixA (u1 hr)) (le_var 1) (le_var 3)) (la_nil))) (la_nil)))) (la_nil)))) <|
    lss_one (ls_aug 3 ip_add sc_deeds_of.nd (le_int)))))) <|
    lss_one (ls_ret (le_var 2))
theorem der_number_in (T : Fs P w K mg) {f : Addr} {cdv : Value} {A : Around} {outer : List Env} {s : Shared} {H : Hp} (hr : Room 0 (A.deeper (envOfC "number_in" (defScope s_number_in) s.heap.objs.size f cdv))) (hG : (A.deeper (envOfC "number_in" (defScope s_number_in) s.heap.objs.size f cdv)).guards = some []) :
    LSs (cxOf CX0 P w K mg base M_number_in "number_in" (defScope s_number_in) f cdv A outer s H E0).nox (defBody s_number_in) (t_number_in T.ad) :=
    lss_cons (ls_if (LWe.lt (lw_or (lt_not (lt_chain lo_le lo_le (le_int) (le_callB lc_len rfl T.n_len boot_len (la_cons (le_var 0) (la_nil))) (le_gint 10 rfl T.c_LONGEST))) (lw_or1 (lt_not (lt_truth (le_callB (lc_all rfl) rfl T.n_all boot_all (la_cons (le_lc [("sign", 1)] rfl sc_number_in.nd (lit_any (le_var 0)) (blkOk_by (N := M_number_in) (sc := defScope s_number_in) (by decide +kernel)) (by decide) (fun _ _ _ _ _ => lg_name 1 sc_number_in.nd) (fun _ _ _ _ _ => lts_nil) (fun _ _ _ _ _ => le_cmp (lo_in (u65 hr)) (le_var 1) (le_gstr [48, 49, 50, 51, 52, 53, 54, 55, 56, 57] rfl T.c_DIGITS))) (la_nil))))))))
      (lss_one (ls_ret (le_non)))
      (lss_nil)) <|
    lss_one (ls_ret (le_if (LWe.lt (lw_and (lt_cmp lo_gt (le_callB lc_len rfl T.n_len boot_len (la_cons (le_var 0) (la_nil))) (le_int)) (lw_and1 (lt_cmp (lo_eq hr.units) (le_ix (lixA (u1 hr)) (le_var 0) (le_int)) (le_str [48]))))) (le_non) (le_callTy lc_intS rfl T.n_int boot_int (la_cons (le_var 0) (la_nil)))))
theorem der_line_of (T : Fs P w K mg) {f : Addr} {cdv : Value} {A : Around} {outer : List Env} {s : Shared} {H : Hp} (hr : Room 0 (A.deeper (envOfC "line_of" (defScope s_line_of) s.heap.objs.size f cdv))) (hG : (A.deeper (envOfC "line_of" (defScope s_line_of) s.heap.objs.size f cdv)).guards = some []) :
    LSs (cxOf CX0 P w K mg base M_line_of "line_of" (defScope s_line_of) f cdv A outer s H E0).nox (defBody s_line_of) (t_line_of T.ad) :=
    lss_cons (ls_set 1 sc_line_of.nd (le_if (lt_cmp (lo_eq hr.units) (le_ix (lixA (u1 hr)) (le_var 0) (le_int)) (le_gstr [112, 117, 116] rfl T.c_PUT)) (le_ix (lixA (u1 hr)) (le_var 0) (le_int)) (le_tup (la_cons (le_ix (lixA (u1 hr)) (le_var 0) (le_int)) (la_nil))))) <|
    lss_one (ls_ret (le_op lo_add (le_bm PySem.F.plainAttrs_str PySem.F.slot_str_join PySem.F.type_str_join mt_join lm_join (le_str [32]) (la_cons (le_lst (la_cons (le_ix (lixA (u1 hr)) (le_var 0) (le_int)) (la_star (le_lc [("number", 2)] rfl sc_line_of.nd (lit_any (le_var 1)) (blkOk_by (N := M_line_of) (sc := defScope s_line_of) (by decide +kernel)) (by decide) (fun _ _ _ _ _ => lg_name 2 sc_line_of.nd) (fun _ _ _ _ _ => lts_nil) (fun _ _ _ _ _ => le_callTy lc_strI rfl T.n_str boot_str (la_cons (le_var 2) (la_nil)))) (la_nil)))) (la_nil))) (le_str [10])))
theorem der_deed_in (T : Fs P w K mg) (O_is_deed : FnG P w K mg base 5 T.f_is_deed T.d_is_deed ["thing"] (sp_is_deed_k94 T.ad)) (O_number_in : FnG P w K mg base 1 T.f_number_in T.d_number_in ["word"] (sp_number_in T.ad)) {f : Addr} {cdv : Value} {A : Around} {outer : List Env} {s : Shared} {H : Hp} (hr : Room 5 (A.deeper (envOfC "deed_in" (defScope s_deed_in) s.heap.objs.size f cdv))) (hG : (A.deeper (envOfC "deed_in" (defScope s_deed_in) s.heap.objs.size f cdv)).guards = some []) :
    LSs (cxOf CX0 P w K mg base M_deed_in "deed_in" (defScope s_deed_in) f cdv A outer s H E0).nox (defBody s_deed_in) (t_deed_in T.ad) :=
    lss_cons (ls_set 1 sc_deed_in.nd (le_bm PySem.F.plainAttrs_str PySem.F.slot_str_split PySem.F.type_str_split mt_split lm_split (le_var 0) (la_cons (le_str [32]) (la_nil)))) <|
    lss_cons (ls_set 2 sc_deed_in.nd (le_callTy lc_tuple rfl T.n_tuple boot_tuple (la_cons (le_lc [("word", 4)] rfl sc_deed_in.nd (lit_any (le_slice (le_var 1) (lpo_some (le_int)) (lpo_none))) (blkOk_by (N := M_deed_in) (sc := defScope s_deed_in) (by decide +kernel)) (by decide) (fun _ _ _ _ _ => lg_name 4 sc_deed_in.nd) (fun _ _ _ _ _ => lts_nil) (fun _ _ _ _ _ => le_call O_number_in (hr.mono (by decide)) hG rfl T.g_number_in T.F_number_in.kp (b_number_in T.F_number_in) (la_cons (le_var 4) (la_nil)))) (la_nil)))) <|
    lss_cons (ls_if (lt_cmp (lo_eq hr.units) (le_ix (lixA (u1 hr)) (le_var 1) (le_int)) (le_gstr [112, 117, 116] rfl T.c_PUT))
      (lss_one (ls_set 3 sc_deed_in.nd (le_tup (la_cons (le_gstr [112, 117, 116] rfl T.c_PUT) (la_cons (le_var 2) (la_nil))))))
      (lss_one (ls_set 3 sc_deed_in.nd (le_tup (la_cons (le_ix (lixA (u1 hr)) (le_var 1) (le_int)) (la_cons (le_if (lt_cmp (lo_eq hr.units) (le_callB lc_len rfl T.n_len boot_len (la_cons (le_var 2) (la_nil))) (le_int)) (le_ix (lixA (u1 hr)) (le_var 2) (le_int)) (le_non)) (la_nil))))))) <|
    lss_one (ls_ret (le_if (lt_truth (le_call O_is_deed (hr.mono (by decide)) hG rfl T.g_is_deed T.F_is_deed.kp (b_is_deed T.F_is_deed) (la_cons (le_var 3) (la_nil)))) (le_var 3) (le_non)))
theorem der_written (T : Fs P w K mg) (O_line_of : FnG P w K mg base 1 T.f_line_of T.d_line_of ["deed"] (sp_line_of T.ad)) {f : Addr} {cdv : Value} {A : Around} {outer : List Env} {s : Shared} {H : Hp} (hr : Room 1 (A.deeper (envOfC "written" (defScope s_written) s.heap.objs.size f cdv))) (hG : (A.deeper (envOfC "written" (defScope s_written) s.heap.objs.size f cdv)).guards = some []) :
    LSs (cxOf CX0 P w K mg base M_written "written" (defScope s_written) f cdv A outer s H E0).nox (defBody s_written) (t_written T.ad) :=
    lss_one (ls_ret (le_bm PySem.F.plainAttrs_str PySem.F.slot_str_join PySem.F.type_str_join mt_join lm_join (le_str []) (la_cons (le_lc [("deed", 1)] rfl sc_written.nd (lit_any (le_var 0)) (blkOk_by (N := M_written) (sc := defScope s_written) (by decide +kernel)) (by decide) (fun _ _ _ _ _ => lg_name 1 sc_written.nd) (fun _ _ _ _ _ => lts_nil) (fun _ _ _ _ _ => le_call O_line_of (hr.mono (by decide)) hG rfl T.g_line_of T.F_line_of.kp (b_line_of T.F_line_of) (la_cons (le_var 1) (la_nil)))) (la_nil))))
theorem der_read__X (T : Fs P w K mg) (O_deed_in : FnG P w K mg base 6 T.f_deed_in T.d_deed_in ["line"] (sp_deed_in T.ad)) {f : Addr} {cdv : Value} {A : Around} {outer : List Env} {s : Shared} {H : Hp} {E : XK} {W : EW} (hr : Room 6 (A.deeper (envOfC "read" (defScope s_read__X) s.heap.objs.size f cdv))) (hG : (A.deeper (envOfC "read" (defScope s_read__X) s.heap.objs.size f cdv)).guards = some []) (tk : Takes (cxOf (CX P w) P w K mg base M_read__X "read" (defScope s_read__X) f cdv A outer s H E) (upX K W)) :
    LSs (cxOf (CX P w) P w K mg base M_read__X "read" (defScope s_read__X) f cdv A outer s H E) (defBody s_read__X) (t_read__X T.ad W) :=
    lss_cons (ls_par 1 2 rfl sc_read__X.nd (la_cons (le_bm PySem.F.plainAttrs_str PySem.F.slot_str_split PySem.F.type_str_split mt_split lm_split (le_var 0) (la_cons (le_str [10]) (la_nil))) (la_cons (le_lst (la_nil)) (la_nil)))) <|
    lss_cons (ls_for PassesOwn.leaving rfl (lit_enum rfl T.n_enumerate (la_cons (le_slice (le_var 1) (lpo_none) (lpo_some (le_neg (le_int)))) (la_nil))) (lg_tup rfl (lgs_cons (lg_name 3 sc_read__X.nd) (lgs_cons (lg_name 4 sc_read__X.nd) (lgs_nil))))
      (lss_cons (ls_set 5 sc_read__X.nd (le_call O_deed_in (hr.mono (by decide)) hG rfl T.g_deed_in T.F_deed_in.kp (b_deed_in T.F_deed_in) (la_cons (le_var 4) (la_nil)))) <|
    lss_cons (ls_if (LWe.lt (lw_or (lt_cmp lo_isN (le_var 5) (le_non)) (lw_or1 (LWe.lt (lw_and (lt_cmp (lo_ne hr.units) (le_var 2) (le_lst (la_nil))) (lw_and1 (lt_cmp (lo_eq hr.units) (le_ix (lixA (u1 hr)) (le_ix (lixA (u1 hr)) (le_var 2) (le_neg (le_int))) (le_int)) (le_ix (lixA (u1 hr)) (le_var 5) (le_int)))))))))
      (lss_one (ls_raise T.x_BadLine tk rfl (hr.mono (by decide)) rfl T.g_BadLine (le_var 3)))
      (lss_nil)) <|
    lss_one (ls_expr (le_bm PySem.F.plainAttrs_list PySem.F.slot_list_append PySem.F.type_list_append mt_append lm_append (le_var 2) (la_cons (le_var 5) (la_nil)))))) <|
    lss_cons (ls_if (lt_cmp (lo_ne hr.units) (le_ix (lixA (u1 hr)) (le_var 1) (le_neg (le_int))) (le_str []))
      (lss_one (ls_raise T.x_BadLine tk rfl (hr.mono (by decide)) rfl T.g_BadLine (le_op lo_sub (le_callB lc_len rfl T.n_len boot_len (la_cons (le_var 1) (la_nil))) (le_int))))
      (lss_nil)) <|
    lss_one (ls_ret (le_var 2))
theorem der_need_letters__X (T : Fs P w K mg) {f : Addr} {cdv : Value} {A : Around} {outer : List Env} {s : Shared} {H : Hp} {E : XK} {W : EW} (hr : Room 1 (A.deeper (envOfC "need_letters" (defScope s_need_letters__X) s.heap.objs.size f cdv))) (hG : (A.deeper (envOfC "need_letters" (defScope s_need_letters__X) s.heap.objs.size f cdv)).guards = some []) (tk : Takes (cxOf (CX P w) P w K mg base M_need_letters__X "need_letters" (defScope s_need_letters__X) f cdv A outer s H E) (upX K W)) :
    LSs (cxOf (CX P w) P w K mg base M_need_letters__X "need_letters" (defScope s_need_letters__X) f cdv A outer s H E) (defBody s_need_letters__X) (t_need_letters__X T.ad W) :=
    lss_cons (ls_set 2 sc_need_letters__X.nd (le_int)) <|
    lss_cons (ls_for PassesOwn.leaving rfl (lit_enum rfl T.n_enumerate (la_cons (le_var 0) (la_nil))) (lg_tup rfl (lgs_cons (lg_name 3 sc_need_letters__X.nd) (lgs_cons (lg_name 4 sc_need_letters__X.nd) (lgs_nil))))
      (lss_cons (ls_aug 2 ip_add sc_need_letters__X.nd (le_callTy lc_int rfl T.n_int boot_int (la_cons (le_cmp (lo_eq hr.units) (le_var 4) (le_str [112])) (la_nil)))) <|
    lss_one (ls_if (lt_cmp lo_gt (le_var 2) (le_callB lc_len rfl T.n_len boot_len (la_cons (le_var 1) (la_nil))))
      (lss_one (ls_raise T.x_NotAScript tk rfl (hr.mono (by decide)) rfl T.g_NotAScript (le_var 3)))
      (lss_nil)))) <|
    lss_one (ls_if (lt_cmp lo_lt (le_var 2) (le_callB lc_len rfl T.n_len boot_len (la_cons (le_var 1) (la_nil))))
      (lss_one (ls_raise T.x_NotAScript tk rfl (hr.mono (by decide)) rfl T.g_NotAScript (le_callB lc_len rfl T.n_len boot_len (la_cons (le_var 0) (la_nil)))))
      (lss_nil))
theorem der_Writer___init__ (T : Fs P w K mg) {f : Addr} {cdv : Value} {A : Around} {outer : List Env} {s : Shared} {H : Hp} (hr : Room 0 (A.deeper (envOfC "Writer.__init__" (defScope s_Writer___init__) s.heap.objs.size f cdv))) (hG : (A.deeper (envOfC "Writer.__init__" (defScope s_Writer___init__) s.heap.objs.size f cdv)).guards = some []) :
    LSs (cxOf CX0 P w K mg base M_Writer___init__ "Writer.__init__" (defScope s_Writer___init__) f cdv A outer s H E0).nox (defBody s_Writer___init__) (t_Writer___init__ T.ad) :=
    lss_one (ls_attr (slot1 T.sc_Writer T.s_Writer_its_last) (le_var 0) (le_lst (la_nil)))
theorem der_Writer_say__X (T : Fs P w K mg) (O_need_letters__X : FnX P w K mg base 2 T.f_need_letters__X T.d_need_letters__X ["steps", "text"] (sp_need_letters__X T.ad)) (O_joined : FnG P w K mg base 1 T.f_joined T.d_joined ["deeds"] (sp_joined_k97 T.ad)) (O_written : FnG P w K mg base 2 T.f_written T.d_written ["delta"] (sp_written T.ad)) (O_deeds_of : FnG P w K mg base 1 T.f_deeds_of T.d_deeds_of ["steps", "text"] (sp_deeds_of T.ad)) {f : Addr} {cdv : Value} {A : Around} {outer : List Env} {s : Shared} {H : Hp} {E : XK} {W : EW} (hr : Room 2 (A.deeper (envOfC "Writer.say" (defScope s_Writer_say__X) s.heap.objs.size f cdv))) (hG : (A.deeper (envOfC "Writer.say" (defScope s_Writer_say__X) s.heap.objs.size f cdv)).guards = some []) (tk : Takes (cxOf (CX P w) P w K mg base M_Writer_say__X "Writer.say" (defScope s_Writer_say__X) f cdv A outer s H E) (upX K W)) :
    LSs (cxOf (CX P w) P w K mg base M_Writer_say__X "Writer.say" (defScope s_Writer_say__X) f cdv A outer s H E) (defBody s_Writer_say__X) (t_Writer_say__X T.ad W) :=
    lss_cons (ls_expr (le_callX O_need_letters__X tk (hr.mono (by decide)) hG rfl T.g_need_letters__X T.F_need_letters__X.kp (b_need_letters__X T.F_need_letters__X) (la_cons (le_var 1) (la_cons (le_var 2) (la_nil))))) <|
    lss_cons (ls_set 3 sc_Writer_say__X.nd (le_call O_joined (hr.mono (by decide)) hG rfl T.g_joined T.F_joined.kp (b_joined T.F_joined) (la_cons (le_lst (la_star (le_attr (slot1 T.sc_Writer T.s_Writer_its_last) (le_var 0)) (la_star (le_call O_deeds_of (hr.mono (by decide)) hG rfl T.g_deeds_of T.F_deeds_of.kp (b_deeds_of T.F_deeds_of) (la_cons (le_var 1) (la_cons (le_var 2) (la_nil)))) (la_nil)))) (la_nil)))) <|
    lss_cons (ls_attr (slot1 T.sc_Writer T.s_Writer_its_last) (le_var 0) (le_slice (le_var 3) (lpo_some (le_neg (le_int))) (lpo_none))) <|
    lss_one (ls_ret (le_call O_written (hr.mono (by decide)) hG rfl T.g_written T.F_written.kp (b_written T.F_written) (la_cons (le_slice (le_var 3) (lpo_none) (lpo_some (le_neg (le_int)))) (la_nil))))
theorem der_Writer_close (T : Fs P w K mg) (O_written : FnG P w K mg base 2 T.f_written T.d_written ["delta"] (sp_written T.ad)) {f : Addr} {cdv : Value} {A : Around} {outer : List Env} {s : Shared} {H : Hp} (hr : Room 2 (A.deeper (envOfC "Writer.close" (defScope s_Writer_close) s.heap.objs.size f cdv))) (hG : (A.deeper (envOfC "Writer.close" (defScope s_Writer_close) s.heap.objs.size f cdv)).guards = some []) :
    LSs (cxOf CX0 P w K mg base M_Writer_close "Writer.close" (defScope s_Writer_close) f cdv A outer s H E0).nox (defBody s_Writer_close) (t_Writer_close T.ad) :=
    lss_cons (ls_set 1 sc_Writer_close.nd (le_call O_written (hr.mono (by decide)) hG rfl T.g_written T.F_written.kp (b_written T.F_written) (la_cons (le_attr (slot1 T.sc_Writer T.s_Writer_its_last) (le_var 0)) (la_nil)))) <|
    lss_cons (ls_attr (slot1 T.sc_Writer T.s_Writer_its_last) (le_var 0) (le_lst (la_nil))) <|
    lss_one (ls_ret (le_var 1))
theorem der__law_bag (T : Fs P w K mg) {f : Addr} {cdv : Value} {A : Around} {outer : List Env} {s : Shared} {H : Hp} (hr : Room 0 (A.deeper (envOfC "_law_bag" (defScope s__law_bag) s.heap.objs.size f cdv))) (hG : (A.deeper (envOfC "_law_bag" (defScope s__law_bag) s.heap.objs.size f cdv)).guards = some []) :
    LSs (cxOf CX0 P w K mg base M__law_bag "_law_bag" (defScope s__law_bag) f cdv A outer s H E0).nox (defBody s__law_bag) (t__law_bag T.ad) :=
    lss_one (ls_ret (le_lst (la_cons (le_int) (la_cons (le_int) (la_cons (le_int) (la_cons (le_lc [("_law_cell", 1)] rfl sc__law_bag.nd (lit_any (le_slice (le_var 0) (lpo_none) (lpo_some (le_int)))) (blkOk_by (N := M__law_bag) (sc := defScope s__law_bag) (by decide +kernel)) (by decide) (fun _ _ _ _ _ => lg_name 1 sc__law_bag.nd) (fun _ _ _ _ _ => lts_nil) (fun _ _ _ _ _ => le_callB lc_abs rfl T.n_abs boot_abs (la_cons (le_var 1) (la_nil)))) (la_nil)))))))
theorem der__law_take (T : Fs P w K mg) {f : Addr} {cdv : Value} {A : Around} {outer : List Env} {s : Shared} {H : Hp} (hr : Room 0 (A.deeper (envOfC "_law_take" (defScope s__law_take) s.heap.objs.size f cdv))) (hG : (A.deeper (envOfC "_law_take" (defScope s__law_take) s.heap.objs.size f cdv)).guards = some []) :
    LSs (cxOf CX0 P w K mg base M__law_take "_law_take" (defScope s__law_take) f cdv A outer s H E0).nox (defBody s__law_take) (t__law_take T.ad) :=
    lss_cons (ls_if (lt_cmp (lo_eq hr.units) (le_ix (lixA (u1 hr)) (le_var 0) (le_int)) (le_int))
      (lss_cons (ls_set 2 sc__law_take.nd (le_ix (lixA (u1 hr)) (le_op lo_add (le_slice (le_ix (lixA (u1 hr)) (le_var 0) (le_int)) (lpo_some (le_ix (lixA (u1 hr)) (le_var 0) (le_int))) (lpo_none)) (le_lst (la_cons (le_int) (la_nil)))) (le_int))) <|
    lss_cons (ls_augS ip_add (le_var 0) (le_int) (le_int)) <|
    lss_cons (ls_setA (u1 hr) (le_op lo_mul (le_var 2) (le_callTy lc_int rfl T.n_int boot_int (la_cons (le_cmp lo_ge (le_var 2) (le_op lo_pow (le_int) (le_int))) (la_nil)))) (le_var 0) (le_int)) <|
    lss_cons (ls_set 3 sc__law_take.nd (le_op lo_add (le_op lo_add (le_op lo_mul (le_ix (lixA (u1 hr)) (le_var 0) (le_int)) (le_int)) (le_op lo_mod (le_callTy lc_int rfl T.n_int boot_int (la_cons (le_var 2) (la_nil))) (le_int))) (le_op lo_mul (le_int) (le_ix (lixA (u1 hr)) (le_var 0) (le_int))))) <|
    lss_one (ls_setA (u1 hr) (le_op lo_mod (le_callTy lc_int rfl T.n_int boot_int (la_cons (le_var 3) (la_nil))) (le_int)) (le_var 0) (le_int)))
      (lss_nil)) <|
    lss_cons (ls_if (lt_cmp lo_gt (le_ix (lixA (u1 hr)) (le_var 0) (le_int)) (le_int))
      (lss_cons (ls_set 4 sc__law_take.nd (le_op lo_mod (le_callTy lc_int rfl T.n_int boot_int (la_cons (le_ix (lixA (u1 hr)) (le_var 0) (le_int)) (la_nil))) (le_var 1))) <|
    lss_cons (ls_setA (u1 hr) (le_op lo_fdiv (le_callTy lc_int rfl T.n_int boot_int (la_cons (le_ix (lixA (u1 hr)) (le_var 0) (le_int)) (la_nil))) (le_var 1)) (le_var 0) (le_int)) <|
    lss_one (ls_ret (le_var 4)))
      (lss_nil)) <|
    lss_cons (ls_set 5 sc__law_take.nd (le_op lo_mod (le_callTy lc_int rfl T.n_int boot_int (la_cons (le_op lo_mul (le_op lo_add (le_ix (lixA (u1 hr)) (le_var 0) (le_int)) (le_int)) (le_int)) (la_nil))) (le_int))) <|
    lss_cons (ls_set 6 sc__law_take.nd (le_op lo_mod (le_callTy lc_int rfl T.n_int boot_int (la_cons (le_op lo_mul (le_op lo_mod (le_callTy lc_int rfl T.n_int boot_int (la_cons (le_op lo_mul (le_var 5) (le_var 5)) (la_nil))) (le_int)) (le_int)) (la_nil))) (le_int))) <|
    lss_one (ls_ret (le_op lo_mod (le_callTy lc_int rfl T.n_int boot_int (la_cons (le_op lo_fdiv (le_var 6) (le_int)) (la_nil))) (le_var 1)))
theorem der__law_one (T : Fs P w K mg) (O__law_take : FnG P w K mg base 1 T.f__law_take T.d__law_take ["_law_bag_here", "_law_many"] (sp__law_take T.ad)) {f : Addr} {cdv : Value} {A : Around} {outer : List Env} {s : Shared} {H : Hp} (hr : Room 1 (A.deeper (envOfC "_law_one" (defScope s__law_one) s.heap.objs.size f cdv))) (hG : (A.deeper (envOfC "_law_one" (defScope s__law_one) s.heap.objs.size f cdv)).guards = some []) :
    LSs (cxOf CX0 P w K mg base M__law_one "_law_one" (defScope s__law_one) f cdv A outer s H E0).nox (defBody s__law_one) (t__law_one T.ad) :=
    lss_one (ls_ret (le_ix (lixA (u1 hr)) (le_var 1) (le_call O__law_take (hr.mono (by decide)) hG rfl T.g__law_take T.F__law_take.kp (b__law_take T.F__law_take) (la_cons (le_var 0) (la_cons (le_callB lc_len rfl T.n_len boot_len (la_cons (le_var 1) (la_nil))) (la_nil))))))
theorem der__law_mixed (T : Fs P w K mg) (O__law_take : FnG P w K mg base 1 T.f__law_take T.d__law_take ["_law_bag_here", "_law_many"] (sp__law_take T.ad)) {f : Addr} {cdv : Value} {A : Around} {outer : List Env} {s : Shared} {H : Hp} (hr : Room 1 (A.deeper (envOfC "_law_mixed" (defScope s__law_mixed) s.heap.objs.size f cdv))) (hG : (A.deeper (envOfC "_law_mixed" (defScope s__law_mixed) s.heap.objs.size f cdv)).guards = some []) :
    LSs (cxOf CX0 P w K mg base M__law_mixed "_law_mixed" (defScope s__law_mixed) f cdv A outer s H E0).nox (defBody s__law_mixed) (t__law_mixed T.ad) :=
    lss_cons (ls_set 2 sc__law_mixed.nd (le_lst (la_nil))) <|
    lss_cons (ls_for PassesOwn.never rfl (lit_any (le_var 1)) (lg_name 3 sc__law_mixed.nd)
      (lss_one (ls_expr (le_bm PySem.F.plainAttrs_list PySem.F.slot_list_insert PySem.F.type_list_insert mt_insert lm_insert (le_var 2) (la_cons (le_call O__law_take (hr.mono (by decide)) hG rfl T.g__law_take T.F__law_take.kp (b__law_take T.F__law_take) (la_cons (le_var 0) (la_cons (le_op lo_add (le_callB lc_len rfl T.n_len boot_len (la_cons (le_var 2) (la_nil))) (le_int)) (la_nil)))) (la_cons (le_var 3) (la_nil))))))) <|
    lss_one (ls_ret (le_var 2))
theorem der__law_alphabet (T : Fs P w K mg) (O__law_mixed : FnG P w K mg base 2 T.f__law_mixed T.d__law_mixed ["_law_bag_here", "_law_things"] (sp__law_mixed T.ad)) (O__law_one : FnG P w K mg base 2 T.f__law_one T.d__law_one ["_law_bag_here", "_law_some"] (sp__law_one T.ad)) {f : Addr} {cdv : Value} {A : Around} {outer : List Env} {s : Shared} {H : Hp} (hr : Room 2 (A.deeper (envOfC "_law_alphabet" (defScope s__law_alphabet) s.heap.objs.size f cdv))) (hG : (A.deeper (envOfC "_law_alphabet" (defScope s__law_alphabet) s.heap.objs.size f cdv)).guards = some []) :
    LSs (cxOf CX0 P w K mg base M__law_alphabet "_law_alphabet" (defScope s__law_alphabet) f cdv A outer s H E0).nox (defBody s__law_alphabet) (t__law_alphabet T.ad) :=
    lss_one (ls_ret (le_slice (le_call O__law_mixed (hr.mono (by decide)) hG rfl T.g__law_mixed T.F__law_mixed.kp (b__law_mixed T.F__law_mixed) (la_cons (le_var 0) (la_cons (le_lst (la_cons (le_int) (la_cons (le_int) (la_cons (le_int) (la_cons (le_int) (la_cons (le_int) (la_cons (le_int) (la_cons (le_op lo_pow (le_int) (le_int)) (la_nil))))))))) (la_nil)))) (lpo_none) (lpo_some (le_call O__law_one (hr.mono (by decide)) hG rfl T.g__law_one T.F__law_one.kp (b__law_one T.F__law_one) (la_cons (le_var 0) (la_cons (le_lst (la_cons (le_int) (la_cons (le_int) (la_cons (le_int) (la_cons (le_int) (la_cons (le_int) (la_nil))))))) (la_nil)))))))
theorem der__law_full (T : Fs P w K mg) (O__law_one : FnG P w K mg base 2 T.f__law_one T.d__law_one ["_law_bag_here", "_law_some"] (sp__law_one T.ad)) {f : Addr} {cdv : Value} {A : Around} {outer : List Env} {s : Shared} {H : Hp} (hr : Room 2 (A.deeper (envOfC "_law_full" (defScope s__law_full) s.heap.objs.size f cdv))) (hG : (A.deeper (envOfC "_law_full" (defScope s__law_full) s.heap.objs.size f cdv)).guards = some []) :
    LSs (cxOf CX0 P w K mg base M__law_full "_law_full" (defScope s__law_full) f cdv A outer s H E0).nox (defBody s__law_full) (t__law_full T.ad) :=
    lss_one (ls_ret (le_callTy lc_tuple rfl T.n_tuple boot_tuple (la_cons (le_lc [("_law_k", 3)] rfl sc__law_full.nd (lit_range1 rfl T.n_range (la_cons (le_var 2) (la_nil))) (blkOk_by (N := M__law_full) (sc := defScope s__law_full) (by decide +kernel)) (by decide) (fun _ _ _ _ _ => lg_name 3 sc__law_full.nd) (fun _ _ _ _ _ => lts_nil) (fun _ _ _ _ _ => le_call O__law_one (hr.mono (by decide)) hG rfl T.g__law_one T.F__law_one.kp (b__law_one T.F__law_one) (la_cons (le_var 0) (la_cons (le_var 1) (la_nil))))) (la_nil))))
theorem der__law_alike (T : Fs P w K mg) {f : Addr} {cdv : Value} {A : Around} {outer : List Env} {s : Shared} {H : Hp} (hr : Room 0 (A.deeper (envOfC "_law_alike" (defScope s__law_alike) s.heap.objs.size f cdv))) (hG : (A.deeper (envOfC "_law_alike" (defScope s__law_alike) s.heap.objs.size f cdv)).guards = some []) :
    LSs (cxOf CX0 P w K mg base M__law_alike "_law_alike" (defScope s__law_alike) f cdv A outer s H E0).nox (defBody s__law_alike) (t__law_alike T.ad) :=
    lss_one (ls_ret (le_and (le_cmp (lo_eq hr.units) (le_var 0) (le_var 1)) (le_one (le_cmp (lo_eq hr.units) (le_callB (lc_repr hG hr.units) rfl T.n_repr boot_repr (la_cons (le_var 0) (la_nil))) (le_callB (lc_repr hG hr.units) rfl T.n_repr boot_repr (la_cons (le_var 1) (la_nil)))))))
theorem der__law_packed (T : Fs P w K mg) {f : Addr} {cdv : Value} {A : Around} {outer : List Env} {s : Shared} {H : Hp} (hr : Room 0 (A.deeper (envOfC "_law_packed" (defScope s__law_packed) s.heap.objs.size f cdv))) (hG : (A.deeper (envOfC "_law_packed" (defScope s__law_packed) s.heap.objs.size f cdv)).guards = some []) :
    LSs (cxOf CX0 P w K mg base M__law_packed "_law_packed" (defScope s__law_packed) f cdv A outer s H E0).nox (defBody s__law_packed) (t__law_packed T.ad) :=
    lss_cons (ls_par 1 2 rfl sc__law_packed.nd (la_cons (le_disp (lps_cons (le_str [107]) (le_str [107, 101, 101, 112]) (lps_cons (le_str [100]) (le_str [100, 114, 111, 112]) (lps_cons (le_str [112]) (le_str [112, 117, 116]) (lps_nil))))) (la_cons (le_lst (la_nil)) (la_nil)))) <|
    lss_cons (ls_for PassesOwn.never rfl (lit_any (le_var 0)) (lg_name 3 sc__law_packed.nd)
      (lss_cons (ls_par 4 5 rfl sc__law_packed.nd (la_cons (le_ix (lixA (u1 hr)) (le_var 1) (le_ix (lixA (u1 hr)) (le_var 3) (le_int))) (la_cons (le_if (lt_cmp (lo_eq hr.units) (le_ix (lixA (u1 hr)) (le_var 3) (le_int)) (le_str [112])) (le_slice (le_var 3) (lpo_some (le_int)) (lpo_none)) (le_int)) (la_nil)))) <|
    lss_one (ls_if (LWe.lt (lw_and (lt_cmp (lo_ne hr.units) (le_var 2) (le_lst (la_nil))) (lw_and1 (lt_cmp (lo_eq hr.units) (le_ix (lixA (u1 hr)) (le_ix (lixA (u1 hr)) (le_var 2) (le_neg (le_int))) (le_int)) (le_var 4)))))
      (lss_one (ls_setA (u1 hr) (le_tup (la_cons (le_var 4) (la_cons (le_op lo_add (le_ix (lixA (u1 hr)) (le_ix (lixA (u1 hr)) (le_var 2) (le_neg (le_int))) (le_int)) (le_var 5)) (la_nil)))) (le_var 2) (le_neg (le_int))))
      (lss_one (ls_expr (le_bm PySem.F.plainAttrs_list PySem.F.slot_list_append PySem.F.type_list_append mt_append lm_append (le_var 2) (la_cons (le_tup (la_cons (le_var 4) (la_cons (le_var 5) (la_nil)))) (la_nil)))))))) <|
    lss_one (ls_ret (le_var 2))
theorem der__law_line (T : Fs P w K mg) {f : Addr} {cdv : Value} {A : Around} {outer : List Env} {s : Shared} {H : Hp} (hr : Room 0 (A.deeper (envOfC "_law_line" (defScope s__law_line) s.heap.objs.size f cdv))) (hG : (A.deeper (envOfC "_law_line" (defScope s__law_line) s.heap.objs.size f cdv)).guards = some []) :
    LSs (cxOf CX0 P w K mg base M__law_line "_law_line" (defScope s__law_line) f cdv A outer s H E0).nox (defBody s__law_line) (t__law_line T.ad) :=
    lss_cons (ls_if (lt_cmp (lo_eq hr.units) (le_ix (lixA (u1 hr)) (le_var 0) (le_int)) (le_str [112, 117, 116]))
      (lss_one (ls_ret (le_op lo_add (le_op lo_add (le_str [112, 117, 116, 32]) (le_bm PySem.F.plainAttrs_str PySem.F.slot_str_join PySem.F.type_str_join mt_join lm_join (le_str [32]) (la_cons (le_lc [("_law_letter", 1)] rfl sc__law_line.nd (lit_any (le_ix (lixA (u1 hr)) (le_var 0) (le_int))) (blkOk_by (N := M__law_line) (sc := defScope s__law_line) (by decide +kernel)) (by decide) (fun _ _ _ _ _ => lg_name 1 sc__law_line.nd) (fun _ _ _ _ _ => lts_nil) (fun _ _ _ _ _ => le_callTy lc_strI rfl T.n_str boot_str (la_cons (le_var 1) (la_nil)))) (la_nil)))) (le_str [10]))))
      (lss_nil)) <|
    lss_one (ls_ret (le_op lo_add (le_op lo_add (le_op lo_add (le_ix (lixA (u1 hr)) (le_var 0) (le_int)) (le_str [32])) (le_callTy lc_strI rfl T.n_str boot_str (la_cons (le_ix (lixA (u1 hr)) (le_var 0) (le_int)) (la_nil)))) (le_str [10])))
theorem der__law_lines (T : Fs P w K mg) (O__law_line : FnG P w K mg base 1 T.f__law_line T.d__law_line ["_law_deed_here"] (sp__law_line T.ad)) {f : Addr} {cdv : Value} {A : Around} {outer : List Env} {s : Shared} {H : Hp} (hr : Room 1 (A.deeper (envOfC "_law_lines" (defScope s__law_lines) s.heap.objs.size f cdv))) (hG : (A.deeper (envOfC "_law_lines" (defScope s__law_lines) s.heap.objs.size f cdv)).guards = some []) :
    LSs (cxOf CX0 P w K mg base M__law_lines "_law_lines" (defScope s__law_lines) f cdv A outer s H E0).nox (defBody s__law_lines) (t__law_lines T.ad) :=
    lss_one (ls_ret (le_bm PySem.F.plainAttrs_str PySem.F.slot_str_join PySem.F.type_str_join mt_join lm_join (le_str []) (la_cons (le_lc [("_law_deed_here", 1)] rfl sc__law_lines.nd (lit_any (le_var 0)) (blkOk_by (N := M__law_lines) (sc := defScope s__law_lines) (by decide +kernel)) (by decide) (fun _ _ _ _ _ => lg_name 1 sc__law_lines.nd) (fun _ _ _ _ _ => lts_nil) (fun _ _ _ _ _ => le_call O__law_line (hr.mono (by decide)) hG rfl T.g__law_line T.F__law_line.kp (b__law_line T.F__law_line) (la_cons (le_var 1) (la_nil)))) (la_nil))))
theorem der__law_number (T : Fs P w K mg) {f : Addr} {cdv : Value} {A : Around} {outer : List Env} {s : Shared} {H : Hp} (hr : Room 0 (A.deeper (envOfC "_law_number" (defScope s__law_number) s.heap.objs.size f cdv))) (hG : (A.deeper (envOfC "_law_number" (defScope s__law_number) s.heap.objs.size f cdv)).guards = some []) :
    LSs (cxOf CX0 P w K mg base M__law_number "_law_number" (defScope s__law_number) f cdv A outer s H E0).nox (defBody s__law_number) (t__law_number T.ad) :=
    lss_cons (ls_if (LWe.lt (lw_or (lt_cmp (lo_eq hr.units) (le_var 0) (le_str [])) (lw_or (lt_cmp lo_gt (le_callB lc_len rfl T.n_len boot_len (la_cons (le_var 0) (la_nil))) (le_int)) (lw_or1 (lt_cmp (lo_ne hr.units) (le_lc [("_law_sign", 1)] rfl sc__law_number.nd (lit_any (le_var 0)) (blkOk_by (N := M__law_number) (sc := defScope s__law_number) (by decide +kernel)) (by decide) (fun _ _ _ _ _ => lg_name 1 sc__law_number.nd) (fun _ _ _ _ _ => lts_one (lt_cmp (lo_nin (u65 hr)) (le_var 1) (le_str [48, 49, 50, 51, 52, 53, 54, 55, 56, 57]))) (fun _ _ _ _ _ => le_var 1)) (le_lst (la_nil)))))))
      (lss_one (ls_ret (le_neg (le_int))))
      (lss_nil)) <|
    lss_one (ls_ret (le_if (LWe.lt (lw_and (lt_cmp lo_gt (le_callB lc_len rfl T.n_len boot_len (la_cons (le_var 0) (la_nil))) (le_int)) (lw_and1 (lt_cmp (lo_eq hr.units) (le_ix (lixA (u1 hr)) (le_var 0) (le_int)) (le_str [48]))))) (le_neg (le_int)) (le_callTy lc_intS rfl T.n_int boot_int (la_cons (le_var 0) (la_nil)))))
theorem der__law_deed (T : Fs P w K mg) (O__law_number : FnG P w K mg base 1 T.f__law_number T.d__law_number ["_law_word"] (sp__law_number T.ad)) {f : Addr} {cdv : Value} {A : Around} {outer : List Env} {s : Shared} {H : Hp} (hr : Room 1 (A.deeper (envOfC "_law_deed" (defScope s__law_deed) s.heap.objs.size f cdv))) (hG : (A.deeper (envOfC "_law_deed" (defScope s__law_deed) s.heap.objs.size f cdv)).guards = some []) :
    LSs (cxOf CX0 P w K mg base M__law_deed "_law_deed" (defScope s__law_deed) f cdv A outer s H E0).nox (defBody s__law_deed) (t__law_deed T.ad) :=
    lss_cons (ls_set 1 sc__law_deed.nd (le_bm PySem.F.plainAttrs_str PySem.F.slot_str_split PySem.F.type_str_split mt_split lm_split (le_var 0) (la_cons (le_str [32]) (la_nil)))) <|
    lss_cons (ls_setLc 2 [("_law_word", 3)] rfl sc__law_deed.nd (lit_any (le_slice (le_var 1) (lpo_some (le_int)) (lpo_none))) (blkOk_by (N := M__law_deed) (sc := defScope s__law_deed) (by decide +kernel)) (by decide) (fun _ _ _ _ _ => lg_name 3 sc__law_deed.nd) (fun _ _ _ _ _ => lts_nil) (fun _ _ _ _ _ => le_call O__law_number (hr.mono (by decide)) hG rfl T.g__law_number T.F__law_number.kp (b__law_number T.F__law_number) (la_cons (le_var 3) (la_nil)))) <|
    lss_cons (ls_if (LWe.lt (lw_or (lt_cmp (lo_ne hr.units) (le_lc [("_law_one_here", 4)] rfl sc__law_deed.nd (lit_any (le_var 2)) (blkOk_by (N := M__law_deed) (sc := defScope s__law_deed) (by decide +kernel)) (by decide) (fun _ _ _ _ _ => lg_name 4 sc__law_deed.nd) (fun _ _ _ _ _ => lts_one (LWe.lt (lw_or (lt_cmp lo_lt (le_var 4) (le_int)) (lw_or1 (lt_cmp lo_gt (le_var 4) (le_op lo_pow (le_int) (le_int))))))) (fun _ _ _ _ _ => le_var 4)) (le_lst (la_nil))) (lw_or1 (lt_cmp (lo_eq hr.units) (le_var 2) (le_lst (la_nil))))))
      (lss_one (ls_ret (le_non)))
      (lss_nil)) <|
    lss_cons (ls_if (lt_cmp (lo_eq hr.units) (le_ix (lixA (u1 hr)) (le_var 1) (le_int)) (le_str [112, 117, 116]))
      (lss_one (ls_ret (le_tup (la_cons (le_str [112, 117, 116]) (la_cons (le_callTy lc_tuple rfl T.n_tuple boot_tuple (la_cons (le_var 2) (la_nil))) (la_nil))))))
      (lss_nil)) <|
    lss_cons (ls_if (LWe.lt (lw_or (lt_cmp (lo_nin (u65 hr)) (le_ix (lixA (u1 hr)) (le_var 1) (le_int)) (le_tup (la_cons (le_str [107, 101, 101, 112]) (la_cons (le_str [100, 114, 111, 112]) (la_nil))))) (lw_or (lt_cmp (lo_ne hr.units) (le_callB lc_len rfl T.n_len boot_len (la_cons (le_var 2) (la_nil))) (le_int)) (lw_or1 (lt_cmp (lo_eq hr.units) (le_ix (lixA (u1 hr)) (le_var 2) (le_int)) (le_int))))))
      (lss_one (ls_ret (le_non)))
      (lss_nil)) <|
    lss_one (ls_ret (le_tup (la_cons (le_ix (lixA (u1 hr)) (le_var 1) (le_int)) (la_cons (le_ix (lixA (u1 hr)) (le_var 2) (le_int)) (la_nil)))))
theorem der__law_reading (T : Fs P w K mg) (O__law_deed : FnG P w K mg base 2 T.f__law_deed T.d__law_deed ["_law_line_here"] (sp__law_deed T.ad)) {f : Addr} {cdv : Value} {A : Around} {outer : List Env} {s : Shared} {H : Hp} (hr : Room 2 (A.deeper (envOfC "_law_reading" (defScope s__law_reading) s.heap.objs.size f cdv))) (hG : (A.deeper (envOfC "_law_reading" (defScope s__law_reading) s.heap.objs.size f cdv)).guards = some []) :
    LSs (cxOf CX0 P w K mg base M__law_reading "_law_reading" (defScope s__law_reading) f cdv A outer s H E0).nox (defBody s__law_reading) (t__law_reading T.ad) :=
    lss_cons (ls_par 1 2 rfl sc__law_reading.nd (la_cons (le_bm PySem.F.plainAttrs_str PySem.F.slot_str_split PySem.F.type_str_split mt_split lm_split (le_var 0) (la_cons (le_str [10]) (la_nil))) (la_cons (le_lst (la_nil)) (la_nil)))) <|
    lss_cons (ls_for PassesOwn.never rfl (lit_range1 rfl T.n_range (la_cons (le_op lo_sub (le_callB lc_len rfl T.n_len boot_len (la_cons (le_var 1) (la_nil))) (le_int)) (la_nil))) (lg_name 3 sc__law_reading.nd)
      (lss_cons (ls_set 4 sc__law_reading.nd (le_call O__law_deed (hr.mono (by decide)) hG rfl T.g__law_deed T.F__law_deed.kp (b__law_deed T.F__law_deed) (la_cons (le_ix (lixA (u1 hr)) (le_var 1) (le_var 3)) (la_nil)))) <|
    lss_cons (ls_if (LWe.lt (lw_or (lt_cmp lo_isN (le_var 4) (le_non)) (lw_or1 (LWe.lt (lw_and (lt_cmp (lo_ne hr.units) (le_var 2) (le_lst (la_nil))) (lw_and1 (lt_cmp (lo_eq hr.units) (le_ix (lixA (u1 hr)) (le_ix (lixA (u1 hr)) (le_var 2) (le_neg (le_int))) (le_int)) (le_ix (lixA (u1 hr)) (le_var 4) (le_int)))))))))
      (lss_one (ls_ret (le_tup (la_cons (le_str [66, 97, 100, 76, 105, 110, 101]) (la_cons (le_var 3) (la_nil))))))
      (lss_nil)) <|
    lss_one (ls_expr (le_bm PySem.F.plainAttrs_list PySem.F.slot_list_append PySem.F.type_list_append mt_append lm_append (le_var 2) (la_cons (le_var 4) (la_nil)))))) <|
    lss_one (ls_ret (le_if (lt_cmp (lo_eq hr.units) (le_ix (lixA (u1 hr)) (le_var 1) (le_neg (le_int))) (le_str [])) (le_tup (la_cons (le_str [100, 101, 108, 116, 97]) (la_cons (le_var 2) (la_nil)))) (le_tup (la_cons (le_str [66, 97, 100, 76, 105, 110, 101]) (la_cons (le_op lo_sub (le_callB lc_len rfl T.n_len boot_len (la_cons (le_var 1) (la_nil))) (le_int)) (la_nil))))))
theorem der__law_read (T : Fs P w K mg) (O_read__X : FnX P w K mg base 7 T.f_read__X T.d_read__X ["text"] (sp_read__X T.ad)) {f : Addr} {cdv : Value} {A : Around} {outer : List Env} {s : Shared} {H : Hp} (hr : Room 7 (A.deeper (envOfC "_law_read" (defScope s__law_read) s.heap.objs.size f cdv))) (hG : (A.deeper (envOfC "_law_read" (defScope s__law_read) s.heap.objs.size f cdv)).guards = some []) :
    LSs (cxOf CX0 P w K mg base M__law_read "_law_read" (defScope s__law_read) f cdv A outer s H E0).nox (defBody s__law_read) (t__law_read T.ad) :=
    lss_cons (ls_try rfl rfl sc__law_read.nd (fun W pn xe tk po =>
      lss_one (ls_set 1 sc__law_read.nd (le_callX O_read__X tk (hr.mono (by decide)) hG rfl T.g_read__X T.F_read__X.kp (b_read__X T.F_read__X) (la_cons (le_var 0) (la_nil))))) (.cons (i := 2) ⟨rfl, by decide, .inl T.g_BadLine⟩ rfl rfl (fun _ _ _ _ _ hz hf => suite_tup T.x_BadLine (by decide +kernel) rfl rfl (by decide) (by decide) hz hf rfl rfl rfl) (.nil)) ⟨T.e_BadLine_BadLine, trivial, trivial⟩) <|
    lss_one (ls_ret (le_tup (la_cons (le_str [100, 101, 108, 116, 97]) (la_cons (le_var 1) (la_nil)))))
theorem der__law_bent (T : Fs P w K mg) (O__law_take : FnG P w K mg base 1 T.f__law_take T.d__law_take ["_law_bag_here", "_law_many"] (sp__law_take T.ad)) (O__law_one : FnG P w K mg base 2 T.f__law_one T.d__law_one ["_law_bag_here", "_law_some"] (sp__law_one T.ad)) {f : Addr} {cdv : Value} {A : Around} {outer : List Env} {s : Shared} {H : Hp} (hr : Room 2 (A.deeper (envOfC "_law_bent" (defScope s__law_bent) s.heap.objs.size f cdv))) (hG : (A.deeper (envOfC "_law_bent" (defScope s__law_bent) s.heap.objs.size f cdv)).guards = some []) :
    LSs (cxOf CX0 P w K mg base M__law_bent "_law_bent" (defScope s__law_bent) f cdv A outer s H E0).nox (defBody s__law_bent) (t__law_bent_k97 T.ad) :=
    lss_cons (ls_set 2 sc__law_bent.nd (le_lst (la_cons (le_str [48]) (la_cons (le_str [49]) (la_cons (le_str [57]) (la_cons (le_str [32]) (la_cons (le_str [10]) (la_cons (le_str [107, 101, 101, 112, 32, 50, 10]) (la_cons (le_str [100, 114, 111, 112, 32, 49, 10]) (la_cons (le_str [112, 117, 116, 32, 52]) (la_cons (le_str [107]) (la_cons (le_str [45, 49]) (la_cons (le_str [43]) (la_cons (le_str [95]) (la_cons (le_str [49, 48, 48, 48, 48, 48, 48, 48, 48, 48]) (la_cons (le_str [48, 49]) (la_cons (le_str [112, 117, 116, 32]) (la_cons (le_str [80]) (la_cons (le_str []) (la_nil)))))))))))))))))))) <|
    lss_cons (ls_for PassesOwn.never rfl (lit_range1 rfl T.n_range (la_cons (le_op lo_add (le_int) (le_call O__law_take (hr.mono (by decide)) hG rfl T.g__law_take T.F__law_take.kp (b__law_take T.F__law_take) (la_cons (le_var 0) (la_cons (le_int) (la_nil))))) (la_nil))) (lg_name 3 sc__law_bent.nd)
      (lss_cons (ls_par 4 5 rfl sc__law_bent.nd (la_cons (le_call O__law_take (hr.mono (by decide)) hG rfl T.g__law_take T.F__law_take.kp (b__law_take T.F__law_take) (la_cons (le_var 0) (la_cons (le_op lo_add (le_callB lc_len rfl T.n_len boot_len (la_cons (le_var 1) (la_nil))) (le_int)) (la_nil)))) (la_cons (le_call O__law_take (hr.mono (by decide)) hG rfl T.g__law_take T.F__law_take.kp (b__law_take T.F__law_take) (la_cons (le_var 0) (la_cons (le_int) (la_nil)))) (la_nil)))) <|
    lss_one (ls_set 1 sc__law_bent.nd (le_op lo_add (le_op lo_add (le_slice (le_var 1) (lpo_none) (lpo_some (le_var 4))) (le_call O__law_one (hr.mono (by decide)) hG rfl T.g__law_one T.F__law_one.kp (b__law_one T.F__law_one) (la_cons (le_var 0) (la_cons (le_var 2) (la_nil))))) (le_slice (le_var 1) (lpo_some (le_op lo_add (le_var 4) (le_var 5))) (lpo_none)))))) <|
    lss_one (ls_ret (le_var 1))
theorem der__law_texts_right (T : Fs P w K mg) (O__law_lines : FnG P w K mg base 2 T.f__law_lines T.d__law_lines ["_law_delta"] (sp__law_lines T.ad)) (O__law_read : FnG P w K mg base 8 T.f__law_read T.d__law_read ["_law_text"] (sp__law_read T.ad)) (O_written : FnG P w K mg base 2 T.f_written T.d_written ["delta"] (sp_written T.ad)) (O__law_alike : FnG P w K mg base 1 T.f__law_alike T.d__law_alike ["_law_found", "_law_due"] (sp__law_alike T.ad)) (O__law_bent : FnG P w K mg base 3 T.f__law_bent T.d__law_bent ["_law_bag_here", "_law_text"] (sp__law_bent_k97 T.ad)) (O__law_reading : FnG P w K mg base 3 T.f__law_reading T.d__law_reading ["_law_text"] (sp__law_reading T.ad)) {f : Addr} {cdv : Value} {A : Around} {outer : List Env} {s : Shared} {H : Hp} (hr : Room 8 (A.deeper (envOfC "_law_texts_right" (defScope s__law_texts_right) s.heap.objs.size f cdv))) (hG : (A.deeper (envOfC "_law_texts_right" (defScope s__law_texts_right) s.heap.objs.size f cdv)).guards = some []) :
    LSs (cxOf CX0 P w K mg base M__law_texts_right "_law_texts_right" (defScope s__law_texts_right) f cdv A outer s H E0).nox (defBody s__law_texts_right) (t__law_texts_right T.ad) :=
    lss_cons (ls_set 2 sc__law_texts_right.nd (le_call O__law_lines (hr.mono (by decide)) hG rfl T.g__law_lines T.F__law_lines.kp (b__law_lines T.F__law_lines) (la_cons (le_var 1) (la_nil)))) <|
    lss_cons (ls_for PassesOwn.never rfl (lit_range1 rfl T.n_range (la_cons (le_int) (la_nil))) (lg_name 3 sc__law_texts_right.nd)
      (lss_cons (ls_set 4 sc__law_texts_right.nd (le_call O__law_read (hr.mono (by decide)) hG rfl T.g__law_read T.F__law_read.kp (b__law_read T.F__law_read) (la_cons (le_call O_written (hr.mono (by decide)) hG rfl T.g_written T.F_written.kp (b_written T.F_written) (la_cons (le_var 1) (la_nil))) (la_nil)))) <|
    lss_cons (ls_if (lt_not (lt_truth (le_call O__law_alike (hr.mono (by decide)) hG rfl T.g__law_alike T.F__law_alike.kp (b__law_alike T.F__law_alike) (la_cons (le_lst (la_cons (le_call O_written (hr.mono (by decide)) hG rfl T.g_written T.F_written.kp (b_written T.F_written) (la_cons (le_var 1) (la_nil))) (la_cons (le_var 4) (la_nil)))) (la_cons (le_lst (la_cons (le_var 2) (la_cons (le_tup (la_cons (le_str [100, 101, 108, 116, 97]) (la_cons (le_var 1) (la_nil)))) (la_nil)))) (la_nil))))))
      (lss_one (ls_ret (le_bl)))
      (lss_nil)) <|
    lss_one (ls_expr (le_bm PySem.F.plainAttrs_list PySem.F.slot_list_append PySem.F.type_list_append mt_append lm_append (le_ix (lixA (u1 hr)) (le_var 4) (le_int)) (la_cons (le_tup (la_cons (le_str [107, 101, 101, 112]) (la_cons (le_int) (la_nil)))) (la_nil)))))) <|
    lss_cons (ls_set 5 sc__law_texts_right.nd (le_op lo_add (le_lc [("_law_k", 7)] rfl sc__law_texts_right.nd (lit_range1 rfl T.n_range (la_cons (le_int) (la_nil))) (blkOk_by (N := M__law_texts_right) (sc := defScope s__law_texts_right) (by decide +kernel)) (by decide) (fun _ _ _ _ _ => lg_name 7 sc__law_texts_right.nd) (fun _ _ _ _ _ => lts_nil) (fun _ _ _ _ _ => le_call O__law_bent (hr.mono (by decide)) hG rfl T.g__law_bent T.F__law_bent.kp (b__law_bent T.F__law_bent) (la_cons (le_var 0) (la_cons (le_var 2) (la_nil))))) (le_lst (la_cons (le_op lo_add (le_op lo_add (le_op lo_add (le_var 2) (le_str [107, 101, 101, 112, 32])) (le_op lo_mul (le_str [57]) (le_int))) (le_str [10])) (la_cons (le_slice (le_var 2) (lpo_none) (lpo_some (le_neg (le_int)))) (la_cons (le_op lo_add (le_var 2) (le_str [10])) (la_nil))))))) <|
    lss_cons (ls_for PassesOwn.never rfl (lit_any (le_op lo_add (le_var 5) (le_lst (la_cons (le_str []) (la_cons (le_str [10]) (la_cons (le_str [107, 101, 101, 112, 32, 49]) (la_cons (le_str [112, 117, 116, 32, 49, 32, 50, 32, 10]) (la_cons (le_str [112, 117, 116, 32, 32, 49, 10]) (la_cons (le_str [32, 107, 101, 101, 112, 32, 49, 10]) (la_cons (le_str [100, 114, 111, 112, 32, 49, 48, 48, 48, 48, 48, 48, 48, 48, 49, 10]) (la_cons (le_str [112, 117, 116, 32, 57, 57, 57, 57, 57, 57, 57, 57, 57, 57, 10]) (la_nil)))))))))))) (lg_name 6 sc__law_texts_right.nd)
      (lss_one (ls_if (lt_not (lt_truth (le_call O__law_alike (hr.mono (by decide)) hG rfl T.g__law_alike T.F__law_alike.kp (b__law_alike T.F__law_alike) (la_cons (le_call O__law_read (hr.mono (by decide)) hG rfl T.g__law_read T.F__law_read.kp (b__law_read T.F__law_read) (la_cons (le_var 6) (la_nil))) (la_cons (le_call O__law_reading (hr.mono (by decide)) hG rfl T.g__law_reading T.F__law_reading.kp (b__law_reading T.F__law_reading) (la_cons (le_var 6) (la_nil))) (la_nil))))))
      (lss_one (ls_ret (le_bl)))
      (lss_nil)))) <|
    lss_one (ls_ret (le_bl))
theorem der__law_said (T : Fs P w K mg) (O_Writer_say__X : FnX P w K mg base 3 T.f_Writer_say__X T.d_Writer_say__X ["self", "steps", "text"] (sp_Writer_say__X T.ad)) {f : Addr} {cdv : Value} {A : Around} {outer : List Env} {s : Shared} {H : Hp} (hr : Room 3 (A.deeper (envOfC "_law_said" (defScope s__law_said) s.heap.objs.size f cdv))) (hG : (A.deeper (envOfC "_law_said" (defScope s__law_said) s.heap.objs.size f cdv)).guards = some []) :
    LSs (cxOf CX0 P w K mg base M__law_said "_law_said" (defScope s__law_said) f cdv A outer s H E0).nox (defBody s__law_said) (t__law_said T.ad) :=
    lss_cons (ls_try rfl rfl sc__law_said.nd (fun W pn xe tk po =>
      lss_one (ls_set 3 sc__law_said.nd (le_metX (met1X T.sc_Writer T.m_Writer_say__X O_Writer_say__X (hr.mono (by decide)) (b_Writer_say__X T.F_Writer_say__X)) tk hG (le_var 0) (la_cons (le_var 1) (la_cons (le_var 2) (la_nil)))))) (.cons (i := 4) ⟨rfl, by decide, .inl T.g_NotAScript⟩ rfl rfl (fun _ _ _ _ _ hz hf => suite_tup T.x_NotAScript (by decide +kernel) rfl rfl (by decide) (by decide) hz hf rfl rfl rfl) (.nil)) ⟨T.e_NotAScript_NotAScript, trivial, trivial⟩) <|
    lss_one (ls_ret (le_tup (la_cons (le_str [108, 105, 110, 101, 115]) (la_cons (le_var 3) (la_nil)))))
theorem der__law_say_right (T : Fs P w K mg) (O__law_alike : FnG P w K mg base 1 T.f__law_alike T.d__law_alike ["_law_found", "_law_due"] (sp__law_alike T.ad)) (O__law_take : FnG P w K mg base 1 T.f__law_take T.d__law_take ["_law_bag_here", "_law_many"] (sp__law_take T.ad)) (O__law_said : FnG P w K mg base 4 T.f__law_said T.d__law_said ["_law_writer", "_law_steps", "_law_text"] (sp__law_said T.ad)) (O__law_full : FnG P w K mg base 3 T.f__law_full T.d__law_full ["_law_bag_here", "_law_letters", "_law_size"] (sp__law_full T.ad)) (O__law_packed : FnG P w K mg base 1 T.f__law_packed T.d__law_packed ["_law_units"] (sp__law_packed T.ad)) (O__law_lines : FnG P w K mg base 2 T.f__law_lines T.d__law_lines ["_law_delta"] (sp__law_lines T.ad)) {f : Addr} {cdv : Value} {A : Around} {outer : List Env} {s : Shared} {H : Hp} (hr : Room 4 (A.deeper (envOfC "_law_say_right" (defScope s__law_say_right) s.heap.objs.size f cdv))) (hG : (A.deeper (envOfC "_law_say_right" (defScope s__law_say_right) s.heap.objs.size f cdv)).guards = some []) :
    LSs (cxOf CX0 P w K mg base M__law_say_right "_law_say_right" (defScope s__law_say_right) f cdv A outer s H E0).nox (defBody s__law_say_right) (t__law_say_right T.ad) :=
    lss_cons (ls_set 6 sc__law_say_right.nd (le_slice (le_var 2) (lpo_some (le_var 3)) (lpo_some (le_var 4)))) <|
    lss_cons (ls_asg (le_tup (la_cons (le_bm PySem.F.plainAttrs_str PySem.F.slot_str_join PySem.F.type_str_join mt_join lm_join (le_str []) (la_cons (le_lc [("_law_unit", 14)] rfl sc__law_say_right.nd (lit_any (le_var 6)) (blkOk_by (N := M__law_say_right) (sc := defScope s__law_say_right) (by decide +kernel)) (by decide) (fun _ _ _ _ _ => lg_name 14 sc__law_say_right.nd) (fun _ _ _ _ _ => lts_nil) (fun _ _ _ _ _ => le_ix (lixA (u1 hr)) (le_var 14) (le_int))) (la_nil))) (la_cons (le_callTy lc_tuple rfl T.n_tuple boot_tuple (la_cons (le_lc [("_law_unit", 14)] rfl sc__law_say_right.nd (lit_any (le_var 6)) (blkOk_by (N := M__law_say_right) (sc := defScope s__law_say_right) (by decide +kernel)) (by decide) (fun _ _ _ _ _ => lg_name 14 sc__law_say_right.nd) (fun _ _ _ _ _ => lts_one (lt_cmp (lo_eq hr.units) (le_ix (lixA (u1 hr)) (le_var 14) (le_int)) (le_str [112]))) (fun _ _ _ _ _ => le_ix (lixA (u1 hr)) (le_var 14) (le_int))) (la_nil))) (la_nil)))) (lg_tup rfl (lgs_cons (lg_name 7 sc__law_say_right.nd) (lgs_cons (lg_name 8 sc__law_say_right.nd) (lgs_nil))))) <|
    lss_cons (ls_if (lt_cmp (lo_eq hr.units) (le_call O__law_take (hr.mono (by decide)) hG rfl T.g__law_take T.F__law_take.kp (b__law_take T.F__law_take) (la_cons (le_var 0) (la_cons (le_int) (la_nil)))) (le_int))
      (lss_cons (ls_set 9 sc__law_say_right.nd (le_op lo_add (le_var 8) (le_call O__law_full (hr.mono (by decide)) hG rfl T.g__law_full T.F__law_full.kp (b__law_full T.F__law_full) (la_cons (le_var 0) (la_cons (le_var 5) (la_cons (le_op lo_add (le_int) (le_call O__law_take (hr.mono (by decide)) hG rfl T.g__law_take T.F__law_take.kp (b__law_take T.F__law_take) (la_cons (le_var 0) (la_cons (le_int) (la_nil))))) (la_nil))))))) <|
    lss_one (ls_if (lt_not (lt_truth (le_call O__law_alike (hr.mono (by decide)) hG rfl T.g__law_alike T.F__law_alike.kp (b__law_alike T.F__law_alike) (la_cons (le_call O__law_said (hr.mono (by decide)) hG rfl T.g__law_said T.F__law_said.kp (b__law_said T.F__law_said) (la_cons (le_var 1) (la_cons (le_var 7) (la_cons (le_var 9) (la_nil))))) (la_cons (le_tup (la_cons (le_str [78, 111, 116, 65, 83, 99, 114, 105, 112, 116]) (la_cons (le_callB lc_len rfl T.n_len boot_len (la_cons (le_var 7) (la_nil))) (la_nil)))) (la_nil))))))
      (lss_one (ls_ret (le_bl)))
      (lss_nil)))
      (lss_nil)) <|
    lss_cons (ls_if (LWe.lt (lw_and (lt_cmp (lo_ne hr.units) (le_var 8) (le_tup (la_nil))) (lw_and1 (lt_cmp (lo_eq hr.units) (le_call O__law_take (hr.mono (by decide)) hG rfl T.g__law_take T.F__law_take.kp (b__law_take T.F__law_take) (la_cons (le_var 0) (la_cons (le_int) (la_nil)))) (le_int)))))
      (lss_cons (ls_set 10 sc__law_say_right.nd (le_call O__law_take (hr.mono (by decide)) hG rfl T.g__law_take T.F__law_take.kp (b__law_take T.F__law_take) (la_cons (le_var 0) (la_cons (le_callB lc_len rfl T.n_len boot_len (la_cons (le_var 8) (la_nil))) (la_nil))))) <|
    lss_cons (ls_setLc 11 [("_law_index", 15)] rfl sc__law_say_right.nd (lit_range1 rfl T.n_range (la_cons (le_callB lc_len rfl T.n_len boot_len (la_cons (le_var 7) (la_nil))) (la_nil))) (blkOk_by (N := M__law_say_right) (sc := defScope s__law_say_right) (by decide +kernel)) (by decide) (fun _ _ _ _ _ => lg_name 15 sc__law_say_right.nd) (fun _ _ _ _ _ => lts_one (lt_cmp (lo_eq hr.units) (le_ix (lixA (u1 hr)) (le_var 7) (le_var 15)) (le_str [112]))) (fun _ _ _ _ _ => le_var 15)) <|
    lss_one (ls_if (lt_not (lt_truth (le_call O__law_alike (hr.mono (by decide)) hG rfl T.g__law_alike T.F__law_alike.kp (b__law_alike T.F__law_alike) (la_cons (le_call O__law_said (hr.mono (by decide)) hG rfl T.g__law_said T.F__law_said.kp (b__law_said T.F__law_said) (la_cons (le_var 1) (la_cons (le_var 7) (la_cons (le_slice (le_var 8) (lpo_none) (lpo_some (le_var 10))) (la_nil))))) (la_cons (le_tup (la_cons (le_str [78, 111, 116, 65, 83, 99, 114, 105, 112, 116]) (la_cons (le_ix (lixA (u1 hr)) (le_var 11) (le_var 10)) (la_nil)))) (la_nil))))))
      (lss_one (ls_ret (le_bl)))
      (lss_nil)))
      (lss_nil)) <|
    lss_cons (ls_par 12 13 rfl sc__law_say_right.nd (la_cons (le_slice (le_call O__law_packed (hr.mono (by decide)) hG rfl T.g__law_packed T.F__law_packed.kp (b__law_packed T.F__law_packed) (la_cons (le_slice (le_var 2) (lpo_none) (lpo_some (le_var 3))) (la_nil))) (lpo_none) (lpo_some (le_neg (le_int)))) (la_cons (le_slice (le_call O__law_packed (hr.mono (by decide)) hG rfl T.g__law_packed T.F__law_packed.kp (b__law_packed T.F__law_packed) (la_cons (le_slice (le_var 2) (lpo_none) (lpo_some (le_var 4))) (la_nil))) (lpo_none) (lpo_some (le_neg (le_int)))) (la_nil)))) <|
    lss_one (ls_ret (le_call O__law_alike (hr.mono (by decide)) hG rfl T.g__law_alike T.F__law_alike.kp (b__law_alike T.F__law_alike) (la_cons (le_call O__law_said (hr.mono (by decide)) hG rfl T.g__law_said T.F__law_said.kp (b__law_said T.F__law_said) (la_cons (le_var 1) (la_cons (le_var 7) (la_cons (le_var 8) (la_nil))))) (la_cons (le_tup (la_cons (le_str [108, 105, 110, 101, 115]) (la_cons (le_call O__law_lines (hr.mono (by decide)) hG rfl T.g__law_lines T.F__law_lines.kp (b__law_lines T.F__law_lines) (la_cons (le_slice (le_var 13) (lpo_some (le_callB lc_len rfl T.n_len boot_len (la_cons (le_var 12) (la_nil)))) (lpo_none)) (la_nil))) (la_nil)))) (la_nil)))))
theorem der_law (T : Fs P w K mg) (O__law_bag : FnG P w K mg base 1 T.f__law_bag T.d__law_bag ["_law_script"] (sp__law_bag T.ad)) (O__law_texts_right : FnG P w K mg base 9 T.f__law_texts_right T.d__law_texts_right ["_law_bag_here", "_law_delta"] (sp__law_texts_right T.ad)) (O__law_alphabet : FnG P w K mg base 3 T.f__law_alphabet T.d__law_alphabet ["_law_bag_here"] (sp__law_alphabet T.ad)) (O__law_one : FnG P w K mg base 2 T.f__law_one T.d__law_one ["_law_bag_here", "_law_some"] (sp__law_one T.ad)) (O__law_lines : FnG P w K mg base 2 T.f__law_lines T.d__law_lines ["_law_delta"] (sp__law_lines T.ad)) (O__law_packed : FnG P w K mg base 1 T.f__law_packed T.d__law_packed ["_law_units"] (sp__law_packed T.ad)) (O_Writer___init__ : FnG P w K mg base 1 T.f_Writer___init__ T.d_Writer___init__ ["self"] (sp_Writer___init__ T.ad)) (O__law_alike : FnG P w K mg base 1 T.f__law_alike T.d__law_alike ["_law_found", "_law_due"] (sp__law_alike T.ad)) (O__law_take : FnG P w K mg base 1 T.f__law_take T.d__law_take ["_law_bag_here", "_law_many"] (sp__law_take T.ad)) (O__law_say_right : FnG P w K mg base 5 T.f__law_say_right T.d__law_say_right ["_law_bag_here", "_law_writer", "_law_units", "_law_at", "_law_end", "_law_letters"] (sp__law_say_right T.ad)) (O_Writer_close : FnG P w K mg base 3 T.f_Writer_close T.d_Writer_close ["self"] (sp_Writer_close T.ad)) (O__law_said : FnG P w K mg base 4 T.f__law_said T.d__law_said ["_law_writer", "_law_steps", "_law_text"] (sp__law_said T.ad)) {f : Addr} {cdv : Value} {A : Around} {outer : List Env} {s : Shared} {H : Hp} (hr : Room 9 (A.deeper (envOfC "law" (defScope s_law) s.heap.objs.size f cdv))) (hG : (A.deeper (envOfC "law" (defScope s_law) s.heap.objs.size f cdv)).guards = some []) :
    LSs (cxOf CX0 P w K mg base M_law "law" (defScope s_law) f cdv A outer s H E0).nox (defBody s_law) (t_law_k97 T.ad) :=
    lss_cons (ls_set 1 sc_law.nd (le_call O__law_bag (hr.mono (by decide)) hG rfl T.g__law_bag T.F__law_bag.kp (b__law_bag T.F__law_bag) (la_cons (le_var 0) (la_nil)))) <|
    lss_cons (ls_par 2 3 rfl sc_law.nd (la_cons (le_lst (la_nil)) (la_cons (le_lst (la_cons (le_tup (la_cons (le_str [107, 101, 101, 112]) (la_cons (le_op lo_add (le_int) (le_call O__law_take (hr.mono (by decide)) hG rfl T.g__law_take T.F__law_take.kp (b__law_take T.F__law_take) (la_cons (le_var 1) (la_cons (le_int) (la_nil))))) (la_nil)))) (la_cons (le_tup (la_cons (le_str [112, 117, 116]) (la_cons (le_tup (la_cons (le_op lo_pow (le_int) (le_int)) (la_cons (le_call O__law_take (hr.mono (by decide)) hG rfl T.g__law_take T.F__law_take.kp (b__law_take T.F__law_take) (la_cons (le_var 1) (la_cons (le_int) (la_nil)))) (la_nil)))) (la_nil)))) (la_nil)))) (la_nil)))) <|
    lss_cons (ls_if (lt_not (lt_truth (le_call O__law_texts_right (hr.mono (by decide)) hG rfl T.g__law_texts_right T.F__law_texts_right.kp (b__law_texts_right T.F__law_texts_right) (la_cons (le_var 1) (la_cons (le_op lo_add (le_var 3) (le_lst (la_cons (le_tup (la_cons (le_str [100, 114, 111, 112]) (la_cons (le_op lo_add (le_int) (le_call O__law_take (hr.mono (by decide)) hG rfl T.g__law_take T.F__law_take.kp (b__law_take T.F__law_take) (la_cons (le_var 1) (la_cons (le_int) (la_nil))))) (la_nil)))) (la_nil)))) (la_nil))))))
      (lss_one (ls_ret (le_bl)))
      (lss_nil)) <|
    lss_cons (ls_for PassesOwn.never rfl (lit_range1 rfl T.n_range (la_cons (le_int) (la_nil))) (lg_name 4 sc_law.nd)
      (lss_cons (ls_set 5 sc_law.nd (le_call O__law_alphabet (hr.mono (by decide)) hG rfl T.g__law_alphabet T.F__law_alphabet.kp (b__law_alphabet T.F__law_alphabet) (la_cons (le_var 1) (la_nil)))) <|
    lss_cons (ls_set 6 sc_law.nd (le_call O__law_one (hr.mono (by decide)) hG rfl T.g__law_one T.F__law_one.kp (b__law_one T.F__law_one) (la_cons (le_var 1) (la_cons (le_lst (la_cons (le_lst (la_cons (le_str [107]) (la_cons (le_str [100]) (la_cons (le_str [112]) (la_nil))))) (la_cons (le_lst (la_cons (le_str [107]) (la_cons (le_str [107]) (la_cons (le_str [107]) (la_cons (le_str [100]) (la_cons (le_str [112]) (la_cons (le_str [112]) (la_nil)))))))) (la_cons (le_lst (la_cons (le_str [112]) (la_cons (le_str [100]) (la_nil)))) (la_cons (le_lst (la_cons (le_str [112]) (la_nil))) (la_cons (le_lst (la_cons (le_str [100]) (la_cons (le_str [100]) (la_cons (le_str [107]) (la_nil))))) (la_nil))))))) (la_nil))))) <|
    lss_cons (ls_set 7 sc_law.nd (le_lst (la_nil))) <|
    lss_cons (ls_for PassesOwn.never rfl (lit_range1 rfl T.n_range (la_cons (le_call O__law_one (hr.mono (by decide)) hG rfl T.g__law_one T.F__law_one.kp (b__law_one T.F__law_one) (la_cons (le_var 1) (la_cons (le_lst (la_cons (le_int) (la_cons (le_int) (la_cons (le_int) (la_cons (le_int) (la_cons (le_int) (la_nil))))))) (la_nil)))) (la_nil))) (lg_name 8 sc_law.nd)
      (lss_cons (ls_set 9 sc_law.nd (le_call O__law_one (hr.mono (by decide)) hG rfl T.g__law_one T.F__law_one.kp (b__law_one T.F__law_one) (la_cons (le_var 1) (la_cons (le_var 6) (la_nil))))) <|
    lss_one (ls_expr (le_bm PySem.F.plainAttrs_list PySem.F.slot_list_append PySem.F.type_list_append mt_append lm_append (le_var 7) (la_cons (le_if (lt_cmp (lo_eq hr.units) (le_var 9) (le_str [112])) (le_tup (la_cons (le_str [112]) (la_cons (le_call O__law_one (hr.mono (by decide)) hG rfl T.g__law_one T.F__law_one.kp (b__law_one T.F__law_one) (la_cons (le_var 1) (la_cons (le_var 5) (la_nil)))) (la_nil)))) (le_tup (la_cons (le_var 9) (la_nil)))) (la_nil)))))) <|
    lss_cons (ls_if (lt_not (lt_truth (le_call O__law_texts_right (hr.mono (by decide)) hG rfl T.g__law_texts_right T.F__law_texts_right.kp (b__law_texts_right T.F__law_texts_right) (la_cons (le_var 1) (la_cons (le_call O__law_packed (hr.mono (by decide)) hG rfl T.g__law_packed T.F__law_packed.kp (b__law_packed T.F__law_packed) (la_cons (le_var 7) (la_nil))) (la_nil))))))
      (lss_one (ls_ret (le_bl)))
      (lss_nil)) <|
    lss_one (ls_expr (le_bm PySem.F.plainAttrs_list PySem.F.slot_list_append PySem.F.type_list_append mt_append lm_append (le_var 2) (la_cons (le_lst (la_cons (le_make0 T.i_Writer T.k_Writer O_Writer___init__ (hr.mono (by decide)) hG rfl T.g_Writer (b_Writer___init__ T.F_Writer___init__)) (la_cons (le_var 7) (la_cons (le_int) (la_cons (le_var 5) (la_nil)))))) (la_nil)))))) <|
    lss_cons (ls_for PassesOwn.never rfl (lit_range1 rfl T.n_range (la_cons (le_int) (la_nil))) (lg_name 10 sc_law.nd)
      (lss_cons (ls_for PassesOwn.never rfl (lit_range1 rfl T.n_range (la_cons (le_int) (la_nil))) (lg_name 8 sc_law.nd)
      (lss_one (ls_for PassesOwn.never rfl (lit_any (le_var 2)) (lg_name 11 sc_law.nd)
      (lss_cons (ls_asg (le_var 11) (lg_tup rfl (lgs_cons (lg_name 12 sc_law.nd) (lgs_cons (lg_name 7 sc_law.nd) (lgs_cons (lg_name 13 sc_law.nd) (lgs_cons (lg_name 5 sc_law.nd) (lgs_nil))))))) <|
    lss_cons (ls_set 14 sc_law.nd (le_if (lt_cmp (lo_eq hr.units) (le_var 8) (le_int)) (le_callB lc_len rfl T.n_len boot_len (la_cons (le_var 7) (la_nil))) (le_callB (lc_min rfl) rfl T.n_min boot_min (la_cons (le_callB lc_len rfl T.n_len boot_len (la_cons (le_var 7) (la_nil))) (la_cons (le_op lo_add (le_var 13) (le_call O__law_take (hr.mono (by decide)) hG rfl T.g__law_take T.F__law_take.kp (b__law_take T.F__law_take) (la_cons (le_var 1) (la_cons (le_int) (la_nil))))) (la_nil)))))) <|
    lss_cons (ls_if (lt_not (lt_truth (le_call O__law_say_right (hr.mono (by decide)) hG rfl T.g__law_say_right T.F__law_say_right.kp (b__law_say_right T.F__law_say_right) (la_cons (le_var 1) (la_cons (le_var 12) (la_cons (le_var 7) (la_cons (le_var 13) (la_cons (le_var 14) (la_cons (le_var 5) (la_nil))))))))))
      (lss_one (ls_ret (le_bl)))
      (lss_nil)) <|
    lss_one (ls_setA (u1 hr) (le_var 14) (le_var 11) (le_int)))))) <|
    lss_one (ls_for PassesOwn.never rfl (lit_any (le_var 2)) (lg_name 11 sc_law.nd)
      (lss_cons (ls_set 15 sc_law.nd (le_call O__law_lines (hr.mono (by decide)) hG rfl T.g__law_lines T.F__law_lines.kp (b__law_lines T.F__law_lines) (la_cons (le_slice (le_call O__law_packed (hr.mono (by decide)) hG rfl T.g__law_packed T.F__law_packed.kp (b__law_packed T.F__law_packed) (la_cons (le_ix (lixA (u1 hr)) (le_var 11) (le_int)) (la_nil))) (lpo_some (le_neg (le_int))) (lpo_none)) (la_nil)))) <|
    lss_cons (ls_if (lt_not (lt_truth (le_call O__law_alike (hr.mono (by decide)) hG rfl T.g__law_alike T.F__law_alike.kp (b__law_alike T.F__law_alike) (la_cons (le_lst (la_cons (le_met0 (met1 T.sc_Writer T.m_Writer_close O_Writer_close (hr.mono (by decide)) (b_Writer_close T.F_Writer_close)) hG (le_ix (lixA (u1 hr)) (le_var 11) (le_int))) (la_cons (le_met0 (met1 T.sc_Writer T.m_Writer_close O_Writer_close (hr.mono (by decide)) (b_Writer_close T.F_Writer_close)) hG (le_ix (lixA (u1 hr)) (le_var 11) (le_int))) (la_cons (le_call O__law_said (hr.mono (by decide)) hG rfl T.g__law_said T.F__law_said.kp (b__law_said T.F__law_said) (la_cons (le_ix (lixA (u1 hr)) (le_var 11) (le_int)) (la_cons (le_str []) (la_cons (le_tup (la_nil)) (la_nil))))) (la_nil))))) (la_cons (le_lst (la_cons (le_var 15) (la_cons (le_str []) (la_cons (le_tup (la_cons (le_str [108, 105, 110, 101, 115]) (la_cons (le_str []) (la_nil)))) (la_nil))))) (la_nil))))))
      (lss_one (ls_ret (le_bl)))
      (lss_nil)) <|
    lss_one (ls_setA (u1 hr) (le_int) (le_var 11) (le_int)))))) <|
    lss_one (ls_ret (le_bl))
end
section
variable {P : Program} {w : World} {K : PySem.W.Frag} {mg : Str → Option Value} {base : Heap}
theorem ok_is_integer (T : Fs P w K mg) : FnG P w K mg base 1 T.f_is_integer T.d_is_integer ["thing"] (sp_is_integer T.ad) :=
  fnG_of T.F_is_integer sc_is_integer (len_is_integer T.ad) fun cdv A outer s H hr hG => ⟨_, der_is_integer T hr hG, pure_is_integer T.ad⟩
theorem ok_is_between (T : Fs P w K mg) : FnG P w K mg base 2 T.f_is_between T.d_is_between ["thing", "low", "high"] (sp_is_between T.ad) :=
  fnG_of T.F_is_between sc_is_between (len_is_between T.ad) fun cdv A outer s H hr hG => ⟨_, der_is_between T (ok_is_integer T) hr hG, pure_is_between T.ad⟩
theorem ok_is_letter (T : Fs P w K mg) : FnG P w K mg base 3 T.f_is_letter T.d_is_letter ["thing"] (sp_is_letter T.ad) :=
  fnG_of T.F_is_letter sc_is_letter (len_is_letter T.ad) fun cdv A outer s H hr hG => ⟨_, der_is_letter T (ok_is_between T) hr hG, pure_is_letter T.ad⟩
theorem ok_is_text (T : Fs P w K mg) : FnG P w K mg base 4 T.f_is_text T.d_is_text ["thing"] (sp_is_text_k94 T.ad) :=
  fnG_of T.F_is_text sc_is_text (len_is_text_k94 T.ad) fun cdv A outer s H hr hG => ⟨_, der_is_text T (ok_is_letter T) hr hG, pure_is_text_k94 T.ad⟩
theorem ok_is_deed (T : Fs P w K mg) : FnG P w K mg base 5 T.f_is_deed T.d_is_deed ["thing"] (sp_is_deed_k94 T.ad) :=
  fnG_of T.F_is_deed sc_is_deed (len_is_deed_k94 T.ad) fun cdv A outer s H hr hG => ⟨_, der_is_deed T (ok_is_between T) (ok_is_text T) hr hG, pure_is_deed_k94 T.ad⟩
theorem ok_joined (T : Fs P w K mg) : FnG P w K mg base 1 T.f_joined T.d_joined ["deeds"] (sp_joined_k97 T.ad) :=
  fnG_of T.F_joined sc_joined (len_joined_k97 T.ad) fun cdv A outer s H hr hG => ⟨_, der_joined T hr hG, pure_joined_k97 T.ad⟩
theorem ok_deeds_of (T : Fs P w K mg) : FnG P w K mg base 1 T.f_deeds_of T.d_deeds_of ["steps", "text"] (sp_deeds_of T.ad) :=
  fnG_of T.F_deeds_of sc_deeds_of (len_deeds_of T.ad) fun cdv A outer s H hr hG => ⟨_, der_deeds_of T hr hG, pure_deeds_of T.ad⟩
theorem ok_number_in (T : Fs P w K mg) : FnG P w K mg base 1 T.f_number_in T.d_number_in ["word"] (sp_number_in T.ad) :=
  fnG_of T.F_number_in sc_number_in (len_number_in T.ad) fun cdv A outer s H hr hG => ⟨_, der_number_in T hr hG, pure_number_in T.ad⟩
theorem ok_line_of (T : Fs P w K mg) : FnG P w K mg base 1 T.f_line_of T.d_line_of ["deed"] (sp_line_of T.ad) :=
  fnG_of T.F_line_of sc_line_of (len_line_of T.ad) fun cdv A outer s H hr hG => ⟨_, der_line_of T hr hG, pure_line_of T.ad⟩
theorem ok_deed_in (T : Fs P w K mg) : FnG P w K mg base 6 T.f_deed_in T.d_deed_in ["line"] (sp_deed_in T.ad) :=
  fnG_of T.F_deed_in sc_deed_in (len_deed_in T.ad) fun cdv A outer s H hr hG => ⟨_, der_deed_in T (ok_is_deed T) (ok_number_in T) hr hG, pure_deed_in T.ad⟩
theorem ok_written (T : Fs P w K mg) : FnG P w K mg base 2 T.f_written T.d_written ["delta"] (sp_written T.ad) :=
  fnG_of T.F_written sc_written (len_written T.ad) fun cdv A outer s H hr hG => ⟨_, der_written T (ok_line_of T) hr hG, pure_written T.ad⟩
theorem ok_read__X (T : Fs P w K mg) : FnX P w K mg base 7 T.f_read__X T.d_read__X ["text"] (sp_read__X T.ad) :=
  fnX_of T.F_read__X sc_read__X (len_read__X T.ad) (fun cdv A outer s H E W hr hG tk => der_read__X T (ok_deed_in T) hr hG tk) (pure_read__X T.ad)
theorem ok_need_letters__X (T : Fs P w K mg) : FnX P w K mg base 2 T.f_need_letters__X T.d_need_letters__X ["steps", "text"] (sp_need_letters__X T.ad) :=
  fnX_of T.F_need_letters__X sc_need_letters__X (len_need_letters__X T.ad) (fun cdv A outer s H E W hr hG tk => der_need_letters__X T hr hG tk) (pure_need_letters__X T.ad)
theorem ok_Writer___init__ (T : Fs P w K mg) : FnG P w K mg base 1 T.f_Writer___init__ T.d_Writer___init__ ["self"] (sp_Writer___init__ T.ad) :=
  fnG_of T.F_Writer___init__ sc_Writer___init__ (len_Writer___init__ T.ad) fun cdv A outer s H hr hG => ⟨_, der_Writer___init__ T hr hG, pure_Writer___init__ T.ad⟩
theorem ok_Writer_say__X (T : Fs P w K mg) : FnX P w K mg base 3 T.f_Writer_say__X T.d_Writer_say__X ["self", "steps", "text"] (sp_Writer_say__X T.ad) :=
  fnX_of T.F_Writer_say__X sc_Writer_say__X (len_Writer_say__X T.ad) (fun cdv A outer s H E W hr hG tk => der_Writer_say__X T (ok_need_letters__X T) (ok_joined T) (ok_written T) (ok_deeds_of T) hr hG tk) (pure_Writer_say__X T.ad)
theorem ok_Writer_close (T : Fs P w K mg) : FnG P w K mg base 3 T.f_Writer_close T.d_Writer_close ["self"] (sp_Writer_close T.ad) :=
  fnG_of T.F_Writer_close sc_Writer_close (len_Writer_close T.ad) fun cdv A outer s H hr hG => ⟨_, der_Writer_close T (ok_written T) hr hG, pure_Writer_close T.ad⟩
theorem ok__law_bag (T : Fs P w K mg) : FnG P w K mg base 1 T.f__law_bag T.d__law_bag ["_law_script"] (sp__law_bag T.ad) :=
  fnG_of T.F__law_bag sc__law_bag (len__law_bag T.ad) fun cdv A outer s H hr hG => ⟨_, der__law_bag T hr hG, pure__law_bag T.ad⟩
theorem ok__law_take (T : Fs P w K mg) : FnG P w K mg base 1 T.f__law_take T.d__law_take ["_law_bag_here", "_law_many"] (sp__law_take T.ad) :=
  fnG_of T.F__law_take sc__law_take (len__law_take T.ad) fun cdv A outer s H hr hG => ⟨_, der__law_take T hr hG, pure__law_take T.ad⟩
theorem ok__law_one (T : Fs P w K mg) : FnG P w K mg base 2 T.f__law_one T.d__law_one ["_law_bag_here", "_law_some"] (sp__law_one T.ad) :=
  fnG_of T.F__law_one sc__law_one (len__law_one T.ad) fun cdv A outer s H hr hG => ⟨_, der__law_one T (ok__law_take T) hr hG, pure__law_one T.ad⟩
theorem ok__law_mixed (T : Fs P w K mg) : FnG P w K mg base 2 T.f__law_mixed T.d__law_mixed ["_law_bag_here", "_law_things"] (sp__law_mixed T.ad) :=
  fnG_of T.F__law_mixed sc__law_mixed (len__law_mixed T.ad) fun cdv A outer s H hr hG => ⟨_, der__law_mixed T (ok__law_take T) hr hG, pure__law_mixed T.ad⟩
theorem ok__law_alphabet (T : Fs P w K mg) : FnG P w K mg base 3 T.f__law_alphabet T.d__law_alphabet ["_law_bag_here"] (sp__law_alphabet T.ad) :=
  fnG_of T.F__law_alphabet sc__law_alphabet (len__law_alphabet T.ad) fun cdv A outer s H hr hG => ⟨_, der__law_alphabet T (ok__law_mixed T) (ok__law_one T) hr hG, pure__law_alphabet T.ad⟩
theorem ok__law_full (T : Fs P w K mg) : FnG P w K mg base 3 T.f__law_full T.d__law_full ["_law_bag_here", "_law_letters", "_law_size"] (sp__law_full T.ad) :=
  fnG_of T.F__law_full sc__law_full (len__law_full T.ad) fun cdv A outer s H hr hG => ⟨_, der__law_full T (ok__law_one T) hr hG, pure__law_full T.ad⟩
theorem ok__law_alike (T : Fs P w K mg) : FnG P w K mg base 1 T.f__law_alike T.d__law_alike ["_law_found", "_law_due"] (sp__law_alike T.ad) :=
  fnG_of T.F__law_alike sc__law_alike (len__law_alike T.ad) fun cdv A outer s H hr hG => ⟨_, der__law_alike T hr hG, pure__law_alike T.ad⟩
theorem ok__law_packed (T : Fs P w K mg) : FnG P w K mg base 1 T.f__law_packed T.d__law_packed ["_law_units"] (sp__law_packed T.ad) :=
  fnG_of T.F__law_packed sc__law_packed (len__law_packed T.ad) fun cdv A outer s H hr hG => ⟨_, der__law_packed T hr hG, pure__law_packed T.ad⟩
theorem ok__law_line (T : Fs P w K mg) : FnG P w K mg base 1 T.f__law_line T.d__law_line ["_law_deed_here"] (sp__law_line T.ad) :=
  fnG_of T.F__law_line sc__law_line (len__law_line T.ad) fun cdv A outer s H hr hG => ⟨_, der__law_line T hr hG, pure__law_line T.ad⟩
theorem ok__law_lines (T : Fs P w K mg) : FnG P w K mg base 2 T.f__law_lines T.d__law_lines ["_law_delta"] (sp__law_lines T.ad) :=
  fnG_of T.F__law_lines sc__law_lines (len__law_lines T.ad) fun cdv A outer s H hr hG => ⟨_, der__law_lines T (ok__law_line T) hr hG, pure__law_lines T.ad⟩
theorem ok__law_number (T : Fs P w K mg) : FnG P w K mg base 1 T.f__law_number T.d__law_number ["_law_word"] (sp__law_number T.ad) :=
  fnG_of T.F__law_number sc__law_number (len__law_number T.ad) fun cdv A outer s H hr hG => ⟨_, der__law_number T hr hG, pure__law_number T.ad⟩
theorem ok__law_deed (T : Fs P w K mg) : FnG P w K mg base 2 T.f__law_deed T.d__law_deed ["_law_line_here"] (sp__law_deed T.ad) :=
  fnG_of T.F__law_deed sc__law_deed (len__law_deed T.ad) fun cdv A outer s H hr hG => ⟨_, der__law_deed T (ok__law_number T) hr hG, pure__law_deed T.ad⟩
theorem ok__law_reading (T : Fs P w K mg) : FnG P w K mg base 3 T.f__law_reading T.d__law_reading ["_law_text"] (sp__law_reading T.ad) :=
  fnG_of T.F__law_reading sc__law_reading (len__law_reading T.ad) fun cdv A outer s H hr hG => ⟨_, der__law_reading T (ok__law_deed T) hr hG, pure__law_reading T.ad⟩
theorem ok__law_read (T : Fs P w K mg) : FnG P w K mg base 8 T.f__law_read T.d__law_read ["_law_text"] (sp__law_read T.ad) :=
  fnG_of T.F__law_read sc__law_read (len__law_read T.ad) fun cdv A outer s H hr hG => ⟨_, der__law_read T (ok_read__X T) hr hG, pure__law_read T.ad⟩
theorem ok__law_bent (T : Fs P w K mg) : FnG P w K mg base 3 T.f__law_bent T.d__law_bent ["_law_bag_here", "_law_text"] (sp__law_bent_k97 T.ad) :=
  fnG_of T.F__law_bent sc__law_bent (len__law_bent_k97 T.ad) fun cdv A outer s H hr hG => ⟨_, der__law_bent T (ok__law_take T) (ok__law_one T) hr hG, pure__law_bent_k97 T.ad⟩
theorem ok__law_texts_right (T : Fs P w K mg) : FnG P w K mg base 9 T.f__law_texts_right T.d__law_texts_right ["_law_bag_here", "_law_delta"] (sp__law_texts_right T.ad) :=
  fnG_of T.F__law_texts_right sc__law_texts_right (len__law_texts_right T.ad) fun cdv A outer s H hr hG => ⟨_, der__law_texts_right T (ok__law_lines T) (ok__law_read T) (ok_written T) (ok__law_alike T) (ok__law_bent T) (ok__law_reading T) hr hG, pure__law_texts_right T.ad⟩
theorem ok__law_said (T : Fs P w K mg) : FnG P w K mg base 4 T.f__law_said T.d__law_said ["_law_writer", "_law_steps", "_law_text"] (sp__law_said T.ad) :=
  fnG_of T.F__law_said sc__law_said (len__law_said T.ad) fun cdv A outer s H hr hG => ⟨_, der__law_said T (ok_Writer_say__X T) hr hG, pure__law_said T.ad⟩
theorem ok__law_say_right (T : Fs P w K mg) : FnG P w K mg base 5 T.f__law_say_right T.d__law_say_right ["_law_bag_here", "_law_writer", "_law_units", "_law_at", "_law_end", "_law_letters"] (sp__law_say_right T.ad) :=
  fnG_of T.F__law_say_right sc__law_say_right (len__law_say_right T.ad) fun cdv A outer s H hr hG => ⟨_, der__law_say_right T (ok__law_alike T) (ok__law_take T) (ok__law_said T) (ok__law_full T) (ok__law_packed T) (ok__law_lines T) hr hG, pure__law_say_right T.ad⟩
theorem ok_law (T : Fs P w K mg) : FnG P w K mg base 10 T.f_law T.d_law ["_law_script"] (spTop 63) :=
  fnG_of T.F_law sc_law (fun evs h Q ⟨ns, e, _⟩ => by rw [e]; rfl) fun cdv A outer s H hr hG => ⟨_, der_law T (ok__law_bag T) (ok__law_texts_right T) (ok__law_alphabet T) (ok__law_one T) (ok__law_lines T) (ok__law_packed T) (ok_Writer___init__ T) (ok__law_alike T) (ok__law_take T) (ok__law_say_right T) (ok_Writer_close T) (ok__law_said T) hr hG, pure_law_k97 T.ad⟩
end
def dD_is_integer : He.DefD := ⟨("is_integer", none), "is_integer", "is_integer", defArgs s_is_integer, defBody s_is_integer, defScope s_is_integer, [], []⟩
def dD_is_between : He.DefD := ⟨("is_between", none), "is_between", "is_between", defArgs s_is_between, defBody s_is_between, defScope s_is_between, [], []⟩
def dD_is_letter : He.DefD := ⟨("is_letter", none), "is_letter", "is_letter", defArgs s_is_letter, defBody s_is_letter, defScope s_is_letter, [], []⟩
def dD_is_text : He.DefD := ⟨("is_text", none), "is_text", "is_text", defArgs s_is_text, defBody s_is_text, defScope s_is_text, [], []⟩
def dD_is_deed : He.DefD := ⟨("is_deed", none), "is_deed", "is_deed", defArgs s_is_deed, defBody s_is_deed, defScope s_is_deed, [], []⟩
def dD_joined : He.DefD := ⟨("joined", none), "joined", "joined", defArgs s_joined, defBody s_joined, defScope s_joined, [], []⟩
def dD_deeds_of : He.DefD := ⟨("deeds_of", none), "deeds_of", "deeds_of", defArgs s_deeds_of, defBody s_deeds_of, defScope s_deeds_of, [], []⟩
def dD_number_in : He.DefD := ⟨("number_in", none), "number_in", "number_in", defArgs s_number_in, defBody s_number_in, defScope s_number_in, [], []⟩
def dD_line_of : He.DefD := ⟨("line_of", none), "line_of", "line_of", defArgs s_line_of, defBody s_line_of, defScope s_line_of, [], []⟩
def dD_deed_in : He.DefD := ⟨("deed_in", none), "deed_in", "deed_in", defArgs s_deed_in, defBody s_deed_in, defScope s_deed_in, [], []⟩
def dD_written : He.DefD := ⟨("written", none), "written", "written", defArgs s_written, defBody s_written, defScope s_written, [], []⟩
def dD_read__X : He.DefD := ⟨("read", none), "read", "read", defArgs s_read__X, defBody s_read__X, defScope s_read__X, [], []⟩
def dD_need_letters__X : He.DefD := ⟨("need_letters", none), "need_letters", "need_letters", defArgs s_need_letters__X, defBody s_need_letters__X, defScope s_need_letters__X, [], []⟩
def dD_Writer___init__ : He.DefD := ⟨("Writer", some "__init__"), "__init__", "Writer.__init__", defArgs s_Writer___init__, defBody s_Writer___init__, defScope s_Writer___init__, [], []⟩
def dD_Writer_say__X : He.DefD := ⟨("Writer", some "say"), "say", "Writer.say", defArgs s_Writer_say__X, defBody s_Writer_say__X, defScope s_Writer_say__X, [], []⟩
def dD_Writer_close : He.DefD := ⟨("Writer", some "close"), "close", "Writer.close", defArgs s_Writer_close, defBody s_Writer_close, defScope s_Writer_close, [], []⟩
def dD__law_bag : He.DefD := ⟨("_law_bag", none), "_law_bag", "_law_bag", defArgs s__law_bag, defBody s__law_bag, defScope s__law_bag, [], []⟩
def dD__law_take : He.DefD := ⟨("_law_take", none), "_law_take", "_law_take", defArgs s__law_take, defBody s__law_take, defScope s__law_take, [], []⟩
def dD__law_one : He.DefD := ⟨("_law_one", none), "_law_one", "_law_one", defArgs s__law_one, defBody s__law_one, defScope s__law_one, [], []⟩
def dD__law_mixed : He.DefD := ⟨("_law_mixed", none), "_law_mixed", "_law_mixed", defArgs s__law_mixed, defBody s__law_mixed, defScope s__law_mixed, [], []⟩
def dD__law_alphabet : He.DefD := ⟨("_law_alphabet", none), "_law_alphabet", "_law_alphabet", defArgs s__law_alphabet, defBody s__law_alphabet, defScope s__law_alphabet, [], []⟩
def dD__law_full : He.DefD := ⟨("_law_full", none), "_law_full", "_law_full", defArgs s__law_full, defBody s__law_full, defScope s__law_full, [], []⟩
def dD__law_alike : He.DefD := ⟨("_law_alike", none), "_law_alike", "_law_alike", defArgs s__law_alike, defBody s__law_alike, defScope s__law_alike, [], []⟩
def dD__law_packed : He.DefD := ⟨("_law_packed", none), "_law_packed", "_law_packed", defArgs s__law_packed, defBody s__law_packed, defScope s__law_packed, [], []⟩
def dD__law_line : He.DefD := ⟨("_law_line", none), "_law_line", "_law_line", defArgs s__law_line, defBody s__law_line, defScope s__law_line, [], []⟩
def dD__law_lines : He.DefD := ⟨("_law_lines", none), "_law_lines", "_law_lines", defArgs s__law_lines, defBody s__law_lines, defScope s__law_lines, [], []⟩
def dD__law_number : He.DefD := ⟨("_law_number", none), "_law_number", "_law_number", defArgs s__law_number, defBody s__law_number, defScope s__law_number, [], []⟩
def dD__law_deed : He.DefD := ⟨("_law_deed", none), "_law_deed", "_law_deed", defArgs s__law_deed, defBody s__law_deed, defScope s__law_deed, [], []⟩
def dD__law_reading : He.DefD := ⟨("_law_reading", none), "_law_reading", "_law_reading", defArgs s__law_reading, defBody s__law_reading, defScope s__law_reading, [], []⟩
def dD__law_read : He.DefD := ⟨("_law_read", none), "_law_read", "_law_read", defArgs s__law_read, defBody s__law_read, defScope s__law_read, [], []⟩
def dD__law_bent : He.DefD := ⟨("_law_bent", none), "_law_bent", "_law_bent", defArgs s__law_bent, defBody s__law_bent, defScope s__law_bent, [], []⟩
def dD__law_texts_right : He.DefD := ⟨("_law_texts_right", none), "_law_texts_right", "_law_texts_right", defArgs s__law_texts_right, defBody s__law_texts_right, defScope s__law_texts_right, [], []⟩
def dD__law_said : He.DefD := ⟨("_law_said", none), "_law_said", "_law_said", defArgs s__law_said, defBody s__law_said, defScope s__law_said, [], []⟩
def dD__law_say_right : He.DefD := ⟨("_law_say_right", none), "_law_say_right", "_law_say_right", defArgs s__law_say_right, defBody s__law_say_right, defScope s__law_say_right, [], []⟩
def dD_law : He.DefD := ⟨("law", none), "law", "law", defArgs s_law, defBody s_law, defScope s_law, [], []⟩
def fn : List He.DefD := [dD_is_integer, dD_is_between, dD_is_letter, dD_is_text, dD_is_deed, dD_joined, dD_deeds_of, dD_number_in, dD_line_of, dD_deed_in, dD_written, dD_read__X, dD_need_letters__X, dD_Writer___init__, dD_Writer_say__X, dD_Writer_close, dD__law_bag, dD__law_take, dD__law_one, dD__law_mixed, dD__law_alphabet, dD__law_full, dD__law_alike, dD__law_packed, dD__law_line, dD__law_lines, dD__law_number, dD__law_deed, dD__law_reading, dD__law_read, dD__law_bent, dD__law_texts_right, dD__law_said, dD__law_say_right, dD_law]
def fa : List He.Fa := [.glo "is_integer", .glo "is_between", .glo "is_letter", .glo "is_text", .glo "is_deed", .glo "joined", .glo "deeds_of", .glo "number_in", .glo "line_of", .glo "deed_in", .glo "written", .glo "read", .glo "need_letters", .mkr "Writer", .meth "Writer" "say", .meth "Writer" "close", .glo "_law_bag", .glo "_law_take", .glo "_law_one", .glo "_law_mixed", .glo "_law_alphabet", .glo "_law_full", .glo "_law_alike", .glo "_law_packed", .glo "_law_line", .glo "_law_lines", .glo "_law_number", .glo "_law_deed", .glo "_law_reading", .glo "_law_read", .glo "_law_bent", .glo "_law_texts_right", .glo "_law_said", .glo "_law_say_right", .glo "law", .glo "Writer", .glo "BadLine", .glo "NotAScript", .free "abs", .free "all", .free "bool", .free "enumerate", .free "int", .free "isinstance", .free "len", .free "min", .free "range", .free "repr", .free "str", .free "tuple", .str "DIGITS" "0123456789", .str "DROP" "drop", .int "GREATEST_LETTER" 1000000000, .str "KEEP" "keep", .int "LONGEST" 10, .str "PUT" "put", .glo "WORD_OF"]
def ts : List He.Tab := [((fun K => He.ga K "WORD_OF"), ["k", "d"])]
def exB : PySem.W.Frag → Bool := fun K => He.valsB K (He.ga K "WORD_OF") [("k", He.Dv.str "keep"), ("d", He.Dv.str "drop")] && missB K (He.ga K "WORD_OF") ["p"] && sclsB K (He.ga K "Writer") && slotB K (He.ga K "Writer") "its_last" 0 && isiOkB K (He.ga K "Writer") && excB PySem.Challenge.rw_saidearly_k97_whole_streams_written_and.prog K (He.ga K "BadLine") "line" "line" && excB PySem.Challenge.rw_saidearly_k97_whole_streams_written_and.prog K (He.ga K "NotAScript") "index" "index" && exmB K (He.ga K "BadLine") (He.ga K "BadLine") true && exmB K (He.ga K "NotAScript") (He.ga K "NotAScript") true
abbrev hk : PySem.W.Hook := hookZ 2000 fa fn ts exB
theorem tab_WORD_OF {w : World} {K : PySem.W.Frag} {h : Heap} (c : He.SaysX fa fn ts [] exB w h K) : KTab K w (He.ga K "WORD_OF") [([107], [107, 101, 101, 112]), ([100], [100, 114, 111, 112])] := by
  intro p hp
  obtain ⟨es, n, hl, hk, _⟩ := c.t.tab 0 rfl
  have hv : He.valsB K (He.ga K "WORD_OF") [("k", He.Dv.str "keep"), ("d", He.Dv.str "drop")] = true := (He.ba (He.ba (He.ba (He.ba (He.ba (He.ba (He.ba (He.ba c.more).1).1).1).1).1).1).1).1
  simp only [List.mem_cons, List.not_mem_nil, or_false] at hp
  rcases hp with rfl | rfl
  · obtain ⟨u, hu, ru⟩ := He.valsB_ok hv (q := ("k", He.Dv.str "keep")) (by simp)
    have e1 : ("k" : Str) = S [107] := by decide +kernel
    have e2 : ("keep" : Str) = S [107, 101, 101, 112] := by decide +kernel
    refine ⟨es, n, u, hl, hk, ?_, ?_⟩
    · rw [← e1]; exact hu
    · rw [← e2]; exact ru
  · obtain ⟨u, hu, ru⟩ := He.valsB_ok hv (q := ("d", He.Dv.str "drop")) (by simp)
    have e1 : ("d" : Str) = S [100] := by decide +kernel
    have e2 : ("drop" : Str) = S [100, 114, 111, 112] := by decide +kernel
    refine ⟨es, n, u, hl, hk, ?_, ?_⟩
    · rw [← e1]; exact hu
    · rw [← e2]; exact ru
theorem no_WORD_OF {w : World} {K : PySem.W.Frag} {h : Heap} (c : He.SaysX fa fn ts [] exB w h K) : KNo K w (He.ga K "WORD_OF") [[112]] := by
  obtain ⟨es, n, hl, hk, _⟩ := c.t.tab 0 rfl
  exact missB_ok hl hk (by decide +kernel) (He.ba (He.ba (He.ba (He.ba (He.ba (He.ba (He.ba (He.ba c.more).1).1).1).1).1).1).1).2
section
variable {w : World} {K : PySem.W.Frag} {h : Heap} {mg : Str → Option Value}
theorem fs_of (X : K.In h) (G : h.Ns mainGlobals mg) (c : He.SaysX fa fn ts [] exB w h K) : ∃ T : Fs PySem.Challenge.rw_saidearly_k97_whole_streams_written_and.prog w K mg, T.f_law = He.ga K "law" := by
  have cd := c.t.d
  have more := c.more
  obtain ⟨dd_is_integer, F_is_integer⟩ := cd.def_ 0 (d := dD_is_integer) rfl
  obtain ⟨dd_is_between, F_is_between⟩ := cd.def_ 1 (d := dD_is_between) rfl
  obtain ⟨dd_is_letter, F_is_letter⟩ := cd.def_ 2 (d := dD_is_letter) rfl
  obtain ⟨dd_is_text, F_is_text⟩ := cd.def_ 3 (d := dD_is_text) rfl
  obtain ⟨dd_is_deed, F_is_deed⟩ := cd.def_ 4 (d := dD_is_deed) rfl
  obtain ⟨dd_joined, F_joined⟩ := cd.def_ 5 (d := dD_joined) rfl
  obtain ⟨dd_deeds_of, F_deeds_of⟩ := cd.def_ 6 (d := dD_deeds_of) rfl
  obtain ⟨dd_number_in, F_number_in⟩ := cd.def_ 7 (d := dD_number_in) rfl
  obtain ⟨dd_line_of, F_line_of⟩ := cd.def_ 8 (d := dD_line_of) rfl
  obtain ⟨dd_deed_in, F_deed_in⟩ := cd.def_ 9 (d := dD_deed_in) rfl
  obtain ⟨dd_written, F_written⟩ := cd.def_ 10 (d := dD_written) rfl
  obtain ⟨dd_read__X, F_read__X⟩ := cd.def_ 11 (d := dD_read__X) rfl
  obtain ⟨dd_need_letters__X, F_need_letters__X⟩ := cd.def_ 12 (d := dD_need_letters__X) rfl
  obtain ⟨dd_Writer___init__, F_Writer___init__⟩ := cd.def_ 13 (d := dD_Writer___init__) rfl
  obtain ⟨dd_Writer_say__X, F_Writer_say__X⟩ := cd.def_ 14 (d := dD_Writer_say__X) rfl
  obtain ⟨dd_Writer_close, F_Writer_close⟩ := cd.def_ 15 (d := dD_Writer_close) rfl
  obtain ⟨dd__law_bag, F__law_bag⟩ := cd.def_ 16 (d := dD__law_bag) rfl
  obtain ⟨dd__law_take, F__law_take⟩ := cd.def_ 17 (d := dD__law_take) rfl
  obtain ⟨dd__law_one, F__law_one⟩ := cd.def_ 18 (d := dD__law_one) rfl
  obtain ⟨dd__law_mixed, F__law_mixed⟩ := cd.def_ 19 (d := dD__law_mixed) rfl
  obtain ⟨dd__law_alphabet, F__law_alphabet⟩ := cd.def_ 20 (d := dD__law_alphabet) rfl
  obtain ⟨dd__law_full, F__law_full⟩ := cd.def_ 21 (d := dD__law_full) rfl
  obtain ⟨dd__law_alike, F__law_alike⟩ := cd.def_ 22 (d := dD__law_alike) rfl
  obtain ⟨dd__law_packed, F__law_packed⟩ := cd.def_ 23 (d := dD__law_packed) rfl
  obtain ⟨dd__law_line, F__law_line⟩ := cd.def_ 24 (d := dD__law_line) rfl
  obtain ⟨dd__law_lines, F__law_lines⟩ := cd.def_ 25 (d := dD__law_lines) rfl
  obtain ⟨dd__law_number, F__law_number⟩ := cd.def_ 26 (d := dD__law_number) rfl
  obtain ⟨dd__law_deed, F__law_deed⟩ := cd.def_ 27 (d := dD__law_deed) rfl
  obtain ⟨dd__law_reading, F__law_reading⟩ := cd.def_ 28 (d := dD__law_reading) rfl
  obtain ⟨dd__law_read, F__law_read⟩ := cd.def_ 29 (d := dD__law_read) rfl
  obtain ⟨dd__law_bent, F__law_bent⟩ := cd.def_ 30 (d := dD__law_bent) rfl
  obtain ⟨dd__law_texts_right, F__law_texts_right⟩ := cd.def_ 31 (d := dD__law_texts_right) rfl
  obtain ⟨dd__law_said, F__law_said⟩ := cd.def_ 32 (d := dD__law_said) rfl
  obtain ⟨dd__law_say_right, F__law_say_right⟩ := cd.def_ 33 (d := dD__law_say_right) rfl
  obtain ⟨dd_law, F_law⟩ := cd.def_ 34 (d := dD_law) rfl
  have c_DIGITS : ∃ t, mg "DIGITS" = some (.str (S [48, 49, 50, 51, 52, 53, 54, 55, 56, 57]) t) := by
    have q := He.str_ok X G (cd.fact 50 (f := .str "DIGITS" "0123456789") rfl)
    have e : ("0123456789" : Str) = S [48, 49, 50, 51, 52, 53, 54, 55, 56, 57] := by decide +kernel
    rw [e] at q
    exact q
  have c_DROP : ∃ t, mg "DROP" = some (.str (S [100, 114, 111, 112]) t) := by
    have q := He.str_ok X G (cd.fact 51 (f := .str "DROP" "drop") rfl)
    have e : ("drop" : Str) = S [100, 114, 111, 112] := by decide +kernel
    rw [e] at q
    exact q
  have c_KEEP : ∃ t, mg "KEEP" = some (.str (S [107, 101, 101, 112]) t) := by
    have q := He.str_ok X G (cd.fact 53 (f := .str "KEEP" "keep") rfl)
    have e : ("keep" : Str) = S [107, 101, 101, 112] := by decide +kernel
    rw [e] at q
    exact q
  have c_PUT : ∃ t, mg "PUT" = some (.str (S [112, 117, 116]) t) := by
    have q := He.str_ok X G (cd.fact 55 (f := .str "PUT" "put") rfl)
    have e : ("put" : Str) = S [112, 117, 116] := by decide +kernel
    rw [e] at q
    exact q
  exact ⟨⟨⟨He.ga K "Book", He.ga K "Comparer", He.ga K "Watch", He.ga K "GainTable", He.ga K "GameTable", He.ga K "Lane", He.ga K "Machine", He.ga K "Nearest", He.ga K "Prices", He.ga K "Rulebook", He.ga K "Sender", He.ga K "Speaker", He.ga K "Standing", He.ga K "Writer", He.ga K "Tails", He.ga K "Teasing", He.ga K "VersusTable", He.ga K "WaitTable", He.ga K "TURNED", He.ga K "WORD_OF", He.ga K "WORDS", He.ga K "STEP_OF", He.ga K "EarlyError", He.ga K "AlreadyEnded", He.ga K "BadArrow", He.ga K "BadLine", He.ga K "BadRule", He.ga K "BeyondEnd", He.ga K "Broken", He.ga K "Contradiction", He.ga K "DoesNotFit", He.ga K "Ended", He.ga K "EndsShort", He.ga K "Finished", He.ga K "KeepNotShown", He.ga K "NeedsNoPromise", He.ga K "NoDeed", He.ga K "NoElder", He.ga K "NoRule", He.ga K "NoSaying", He.ga K "NoStand", He.ga K "NoSuchLetter", He.ga K "NoTick", He.ga K "NoWait", He.ga K "NotARing", He.ga K "NotAScript", He.ga K "NotAWalk", He.ga K "NotClaimed", He.ga K "NotComparable", He.ga K "NotHeights", He.ga K "NotLet", He.ga K "NotOnRim", He.ga K "NotSent", He.ga K "NotWhole", He.ga K "Nothing", He.ga K "Stopped", He.ga K "TooMany", He.ga K "UnderLag", He.ga K "UnderTotal", He.ga K "Unsettled", He.ga K "Wrong"⟩, He.fAd K ("is_integer", none), dd_is_integer, F_is_integer, He.glo_ok X G (cd.fact 0 (f := .glo "is_integer") rfl), He.fAd K ("is_between", none), dd_is_between, F_is_between, He.glo_ok X G (cd.fact 1 (f := .glo "is_between") rfl), He.fAd K ("is_letter", none), dd_is_letter, F_is_letter, He.glo_ok X G (cd.fact 2 (f := .glo "is_letter") rfl), He.fAd K ("is_text", none), dd_is_text, F_is_text, He.glo_ok X G (cd.fact 3 (f := .glo "is_text") rfl), He.fAd K ("is_deed", none), dd_is_deed, F_is_deed, He.glo_ok X G (cd.fact 4 (f := .glo "is_deed") rfl), He.fAd K ("joined", none), dd_joined, F_joined, He.glo_ok X G (cd.fact 5 (f := .glo "joined") rfl), He.fAd K ("deeds_of", none), dd_deeds_of, F_deeds_of, He.glo_ok X G (cd.fact 6 (f := .glo "deeds_of") rfl), He.fAd K ("number_in", none), dd_number_in, F_number_in, He.glo_ok X G (cd.fact 7 (f := .glo "number_in") rfl), He.fAd K ("line_of", none), dd_line_of, F_line_of, He.glo_ok X G (cd.fact 8 (f := .glo "line_of") rfl), He.fAd K ("deed_in", none), dd_deed_in, F_deed_in, He.glo_ok X G (cd.fact 9 (f := .glo "deed_in") rfl), He.fAd K ("written", none), dd_written, F_written, He.glo_ok X G (cd.fact 10 (f := .glo "written") rfl), He.fAd K ("read", none), dd_read__X, F_read__X, He.glo_ok X G (cd.fact 11 (f := .glo "read") rfl), He.fAd K ("need_letters", none), dd_need_letters__X, F_need_letters__X, He.glo_ok X G (cd.fact 12 (f := .glo "need_letters") rfl), He.fAd K ("Writer", some "__init__"), dd_Writer___init__, F_Writer___init__, He.mkr_ok (cd.fact 13 (f := .mkr "Writer") rfl), isiOkB_ok (He.ba (He.ba (He.ba (He.ba (He.ba more).1).1).1).1).2, He.fAd K ("Writer", some "say"), dd_Writer_say__X, F_Writer_say__X, He.meth_ok (cd.fact 14 (f := .meth "Writer" "say") rfl), He.fAd K ("Writer", some "close"), dd_Writer_close, F_Writer_close, He.meth_ok (cd.fact 15 (f := .meth "Writer" "close") rfl), He.fAd K ("_law_bag", none), dd__law_bag, F__law_bag, He.glo_ok X G (cd.fact 16 (f := .glo "_law_bag") rfl), He.fAd K ("_law_take", none), dd__law_take, F__law_take, He.glo_ok X G (cd.fact 17 (f := .glo "_law_take") rfl), He.fAd K ("_law_one", none), dd__law_one, F__law_one, He.glo_ok X G (cd.fact 18 (f := .glo "_law_one") rfl), He.fAd K ("_law_mixed", none), dd__law_mixed, F__law_mixed, He.glo_ok X G (cd.fact 19 (f := .glo "_law_mixed") rfl), He.fAd K ("_law_alphabet", none), dd__law_alphabet, F__law_alphabet, He.glo_ok X G (cd.fact 20 (f := .glo "_law_alphabet") rfl), He.fAd K ("_law_full", none), dd__law_full, F__law_full, He.glo_ok X G (cd.fact 21 (f := .glo "_law_full") rfl), He.fAd K ("_law_alike", none), dd__law_alike, F__law_alike, He.glo_ok X G (cd.fact 22 (f := .glo "_law_alike") rfl), He.fAd K ("_law_packed", none), dd__law_packed, F__law_packed, He.glo_ok X G (cd.fact 23 (f := .glo "_law_packed") rfl), He.fAd K ("_law_line", none), dd__law_line, F__law_line, He.glo_ok X G (cd.fact 24 (f := .glo "_law_line") rfl), He.fAd K ("_law_lines", none), dd__law_lines, F__law_lines, He.glo_ok X G (cd.fact 25 (f := .glo "_law_lines") rfl), He.fAd K ("_law_number", none), dd__law_number, F__law_number, He.glo_ok X G (cd.fact 26 (f := .glo "_law_number") rfl), He.fAd K ("_law_deed", none), dd__law_deed, F__law_deed, He.glo_ok X G (cd.fact 27 (f := .glo "_law_deed") rfl), He.fAd K ("_law_reading", none), dd__law_reading, F__law_reading, He.glo_ok X G (cd.fact 28 (f := .glo "_law_reading") rfl), He.fAd K ("_law_read", none), dd__law_read, F__law_read, He.glo_ok X G (cd.fact 29 (f := .glo "_law_read") rfl), He.fAd K ("_law_bent", none), dd__law_bent, F__law_bent, He.glo_ok X G (cd.fact 30 (f := .glo "_law_bent") rfl), He.fAd K ("_law_texts_right", none), dd__law_texts_right, F__law_texts_right, He.glo_ok X G (cd.fact 31 (f := .glo "_law_texts_right") rfl), He.fAd K ("_law_said", none), dd__law_said, F__law_said, He.glo_ok X G (cd.fact 32 (f := .glo "_law_said") rfl), He.fAd K ("_law_say_right", none), dd__law_say_right, F__law_say_right, He.glo_ok X G (cd.fact 33 (f := .glo "_law_say_right") rfl), He.fAd K ("law", none), dd_law, F_law, He.glo_ok X G (cd.fact 34 (f := .glo "law") rfl), He.glo_ok X G (cd.fact 35 (f := .glo "Writer") rfl), sclsB_ok (He.ba (He.ba (He.ba (He.ba (He.ba (He.ba (He.ba more).1).1).1).1).1).1).2, slotB_ok (He.ba (He.ba (He.ba (He.ba (He.ba (He.ba more).1).1).1).1).1).2, He.glo_ok X G (cd.fact 36 (f := .glo "BadLine") rfl), excB_ok (He.ba (He.ba (He.ba (He.ba more).1).1).1).2, He.glo_ok X G (cd.fact 37 (f := .glo "NotAScript") rfl), excB_ok (He.ba (He.ba (He.ba more).1).1).2, exmB_ok (He.ba (He.ba more).1).2, exmB_ok (He.ba more).2, He.free_ok X G (cd.fact 38 (f := .free "abs") rfl), He.free_ok X G (cd.fact 39 (f := .free "all") rfl), He.free_ok X G (cd.fact 40 (f := .free "bool") rfl), He.free_ok X G (cd.fact 41 (f := .free "enumerate") rfl), He.free_ok X G (cd.fact 42 (f := .free "int") rfl), He.free_ok X G (cd.fact 43 (f := .free "isinstance") rfl), He.free_ok X G (cd.fact 44 (f := .free "len") rfl), He.free_ok X G (cd.fact 45 (f := .free "min") rfl), He.free_ok X G (cd.fact 46 (f := .free "range") rfl), He.free_ok X G (cd.fact 47 (f := .free "repr") rfl), He.free_ok X G (cd.fact 48 (f := .free "str") rfl), He.free_ok X G (cd.fact 49 (f := .free "tuple") rfl), c_DIGITS, c_DROP, He.int_ok X G (cd.fact 52 (f := .int "GREATEST_LETTER" 1000000000) rfl), c_KEEP, He.int_ok X G (cd.fact 54 (f := .int "LONGEST" 10) rfl), c_PUT, He.glo_ok X G (cd.fact 56 (f := .glo "WORD_OF") rfl), tab_WORD_OF c, no_WORD_OF c⟩, rfl⟩
end
end Y
open PySem PySem.W PySem.Calls PyProof.Rows
theorem PySem.Challenge.cw_saidearly_k97_whole_streams_written_and_holds : PySem.Challenge.rw_saidearly_k97_whole_streams_written_and.Holds := by
  w_on; o_law
  o_head (Y.hk)
  case hw => w_witness2
  case hc =>
    refine Y.walkG (l := PySem.Challenge.rw_saidearly_k97_whole_streams_written_and) (n := 63) (k := 10) (x := "_law_script") rfl (by decide) (by kernel_rfl) ⟨rfl, by decide, by decide⟩ ?F
    intro w mg fa h Y G hmg0
    obtain ⟨K, KX, c⟩ := Y
    have hmg : mg ("law" : PySem.Str) = some (.ref fa) := by
      have e : (HandSHeadRun.topDef (OpenLaw.row PySem.Challenge.rw_saidearly_k97_whole_streams_written_and).prog 47).name = ("law" : PySem.Str) := by kernel_rfl
      rw [← e]
      exact hmg0
    obtain ⟨T, eT⟩ := Y.fs_of KX G c
    have e := T.g_law.symm.trans hmg
    have e2 : T.f_law = fa := Value.ref.inj (Option.some.inj e)
    subst e2
    have b := L2.FunD.bindsA (ps := ["_law_script"]) T.F_law fun _ _ _ _ _ _ us hl => match us, hl with | [_], _ => rfl
    exact ⟨K, T.d_law, KX, fun s u => b s [u] rfl, fun base _ _ => Y.ok_law T⟩

