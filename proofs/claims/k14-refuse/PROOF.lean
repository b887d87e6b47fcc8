import PyProof.Rows.All
import Wide.All
import OpenK.AllK
import Wide.FinOn
import HandS.Base
import HandS.Call
import HandS.List
import HandS.Comp
import HandS.Dict
import HandS.Iter
import HandS.Text
import HandS.More
import HandS.Exc
import HandS.Slots
import KE.KIsNot
import KE.KIsAll
import HandS.Wide
import HandS.TupAny
import KE.DataEq
import HandS.TryOnly
import HandS.Words
import HandS.Defaults
import HandS.Ends
import HandS.HeadEnd
import HandS.TupMul
import HandS.WordsDict
import HandS.RaiseMore
import KE.GoesNew
import KE.GoesEnum
import PyProof.ReprLen
import HandS.Star
import HandS.Deep
import HandS.SetFor
import HandS.Zip
import HandS.Style
import KE.KIndexOf
import HandS.IsInst
import HandS.DictComp
import HandS.SlotsOwn
import HandS.Head0
import HandS.Head1
import HandS.Head2
import HandS.HeadHook1
import HandS.HeadHook2
import HandS.HeadHook3
import HandS.HeadHook4
import HandS.Conv
import PyProof.EnumMake
import KE.KDictDisplayH
import KE.KRevSl
import KE.KDictList
import HandS.Flow
import HandS.DictEq
import HandS.ExcInit
import HandS.ExcField
import HandS.ExcOwn
import KE.KExcSuper
import KE.KExcRaise
import HandS.TryMany
import KE.GoesEnumKw
import HandS.SortKw
import HandS.Finally
import KE.KStateDown
import PySem.Challenge.RW_saidearly_k14_lanes_refuse
set_option Elab.async false
set_option linter.all false
set_option maxRecDepth 100000
set_option maxHeartbeats 0
namespace Y
open PySem PySem.Spec PyProof.Rows L2

inductive EV where
  | non | bl (b : Bool) | int (i : Int) | str (s : List Nat) | tup (xs : List EV) | ktup (xs : List EV) | ref (r : Nat) | adr (a : Addr) | ty (n : String)
inductive EO where
  | lst (xs : List EV) | frz (xs : List EV) | dic (kvs : List (EV × EV)) | dct (kvs : List (EV × EV)) | ins (C : Addr) (fs : List (Str × EV)) | slo (C : Addr) (vs : List (Option EV)) | dlk (o : Obj) (l : List (L2.Key × V)) (kvs : List (EV × EV)) | xob (fs : List (Str × EV)) | mark (m : Nat → Addr) (n : Nat) (H : Hp) | gone
abbrev En := List (Option EV)
abbrev EH := List EO
abbrev EK := EV → EH → Prop
abbrev LT := En → EH → EK → Prop
abbrev S (l : List Nat) : Str := ⟨l.toArray⟩

def NoTup (u : HO) : Prop := (∀ xs, u ≠ .tup xs) ∧ (∀ q xs, u ≠ .frz q (.tup xs)) ∧ (∀ q xs, u ≠ .frz q (.lst xs)) ∧ (∀ l, u ≠ .xd l) ∧ ∀ y, u ≠ .own y
def FrzL (K : PySem.W.Frag) (H : Hp) (a : Addr) (xs : List V) : Prop := (∃ o, H a = some (.frz o (.lst xs))) ∨
  ∃ (o : Obj) (its : Array Value) (n : Nat), K.lookup a = some o ∧ o.cls = .type "list" ∧ o.dict = none ∧ o.data = .seq its n ∧ its.size ≤ sizeLine ∧ Vals xs its.toList
theorem FrzL.sql {K : PySem.W.Frag} {H : Hp} {a : Addr} {xs : List V} (h : FrzL K H a xs) : SqL K H a xs := by
  rcases h with ⟨o, h⟩ | h
  · exact .inl (.inr ⟨o, h⟩)
  · exact .inr h
def isF : EO → Bool
  | .frz _ => true
  | .xob _ => true
  | .mark .. => true
  | _ => false
def keysL : List EV → Option (List L2.Key)
  | [] => some []
  | .int i :: r => (keysL r).map (Sum.inl i :: ·)
  | .str s :: r => (keysL r).map (Sum.inr (S s) :: ·)
  | _ => none
def keyL : EV → Option (List L2.Key)
  | .tup ks => keysL ks
  | _ => none
structure Ex (K : PySem.W.Frag) (m : Nat → Addr) (n : Nat) (H : Hp) (m' : Nat → Addr) (n' : Nat) (H' : Hp) : Prop where
  le : n ≤ n'
  eq : ∀ r, r < n → m' r = m r
  tup : ∀ a xs, SqT K H a xs → SqT K H' a xs
  tk : ∀ a xs, H a = some (.tup xs) → H' a = some (.tup xs)

structure IsiOk (K : PySem.W.Frag) (C : Addr) : Prop where
  pg : PySem.W.plainGet K C "__class__" = true
  ic : PySem.W.isClsIn K C = true
  cl : PySem.W.findIn K (.ref C) "__class__" = some (some (.builtin "object.__class__"))
  gt : PySem.W.specialIn K (.builtin "object.__class__") "__get__" = some (some (.builtin "getset_descriptor.__get__"))
  tk : PySem.W.takesIn K (.builtin "object.__class__") = some true
  mo : PySem.W.mroIn K C (.type "object") = some true
  ty : ∀ T ∈ ["int", "bool", "str", "tuple", "dict", "list"], PySem.W.kitOne K (.ref C) (.type T) = some false
section rel
variable (K : PySem.W.Frag) (m : Nat → Addr) (n : Nat) (H : Hp)
mutual
def RelE : EV → V → Prop
  | .non, v => v = .non
  | .bl b, v => v = .bl b
  | .int i, v => v = .int i
  | .str s, v => v = .str (S s)
  | .tup xs, v => ∃ a vs, v = .ref a ∧ H a = some (.tup vs) ∧ RelEs xs vs
  | .ktup xs, v => ∃ a vs, v = .ref a ∧ SqT K H a vs ∧ RelEs xs vs
  | .ref r, v => r < n ∧ v = .ref (m r)
  | .adr a, v => v = .ref a
  | .ty t, v => v = .ty t
def RelEs : List EV → List V → Prop
  | [], vs => vs = []
  | x :: xs, vs => ∃ v r, vs = v :: r ∧ RelE x v ∧ RelEs xs r
end
def RelKV : List (EV × EV) → List (L2.Key × V) → Prop
  | [], l => l = []
  | (k, x) :: r, l => ∃ k' v l', l = (k', v) :: l' ∧ RelE K m n H k (kV k') ∧ RelE K m n H x v ∧ RelKV r l'
def RelKT : List (EV × EV) → List (List L2.Key × V) → Prop
  | [], l => l = []
  | (k, x) :: r, l => ∃ k' v l', l = (k', v) :: l' ∧ keyL k = some k' ∧ RelE K m n H x v ∧ RelKT r l'
def RelFs : List (Str × EV) → List (Str × V) → Prop
  | [], l => l = []
  | (f, x) :: r, l => ∃ v l', l = (f, v) :: l' ∧ RelE K m n H x v ∧ RelFs r l'
def RelO : EO → Addr → Prop
  | .lst xs, a => ∃ vs, H a = some (.lst vs) ∧ RelEs K m n H xs vs
  | .frz xs, a => ∃ vs, FrzL K H a vs ∧ RelEs K m n H xs vs
  | .dic kvs, a => ∃ l, H a = some (.dK l) ∧ RelKV K m n H kvs l
  | .dct kvs, a => ∃ l, H a = some (.dT l) ∧ RelKT K m n H kvs l
  | .ins C fs, a => ∃ dx l, H a = some (.ins C dx l) ∧ RelFs K m n H fs l
  | .slo C vs, a => IsiOk K C ∧ ∃ dx ws, SlX.Slt H a C dx ws ∧ dx ≠ a ∧ (H dx = some (.own a) ∨ H dx = some (.xd [])) ∧ ∀ (i : Nat) (v : EV), vs[i]? = some (some v) → ∃ w, ws[i]? = some (some w) ∧ RelE K m n H v w
  | .dlk o l kvs, a => H a = some (.frz o (.dK l)) ∧ RelKV K m n H kvs l
  | .xob fs, a => ∃ l, H a = some (.xd l) ∧ RelFs K m n H fs l
  | .mark m0 n0 H0, _ => Ex K m0 n0 H0 m n H
  | .gone, a => ∃ o, H a = some o ∧ NoTup o
end rel
structure RelH (K : PySem.W.Frag) (m : Nat → Addr) (h : EH) (H : Hp) : Prop where
  obj : ∀ r o, h[r]? = some o → RelO K m h.length H o (m r)
  inj : ∀ r q o u, h[r]? = some o → h[q]? = some u → isF o = false → isF u = false → m r = m q → r = q
def RelN (K : PySem.W.Frag) (m : Nat → Addr) (n : Nat) (H : Hp) (env : En) (σ : L2.St) : Prop :=
  env.length = σ.length ∧ ∀ (i : Nat) (v : EV), env[i]? = some (some v) → ∃ x, σ[i]? = some (some x) ∧ RelE K m n H v x
section
variable {K : PySem.W.Frag} {m m' m2 : Nat → Addr} {n n' n2 : Nat} {H H' H2 : Hp}
theorem Ex.refl : Ex K m n H m n H := ⟨Nat.le_refl _, fun _ _ => rfl, fun _ _ h => h, fun _ _ h => h⟩
theorem Ex.trans (a : Ex K m n H m' n' H') (b : Ex K m' n' H' m2 n2 H2) : Ex K m n H m2 n2 H2 :=
  ⟨Nat.le_trans a.le b.le, fun r h => (b.eq r (Nat.lt_of_lt_of_le h a.le)).trans (a.eq r h), fun x xs h => b.tup x xs (a.tup x xs h), fun x xs h => b.tk x xs (a.tk x xs h)⟩
mutual
theorem RelE.ex (E : Ex K m n H m' n' H') : ∀ (e : EV) (v : V), RelE K m n H e v → RelE K m' n' H' e v
  | .non, v, h => by rw [RelE] at h ⊢; exact h
  | .bl _, v, h => by rw [RelE] at h ⊢; exact h
  | .int _, v, h => by rw [RelE] at h ⊢; exact h
  | .str _, v, h => by rw [RelE] at h ⊢; exact h
  | .adr _, v, h => by rw [RelE] at h ⊢; exact h
  | .ty _, v, h => by rw [RelE] at h ⊢; exact h
  | .ref r, v, h => by
    rw [RelE] at h ⊢
    exact ⟨Nat.lt_of_lt_of_le h.1 E.le, by rw [E.eq r h.1]; exact h.2⟩
  | .tup xs, v, h => by
    rw [RelE] at h ⊢
    obtain ⟨a, vs, e, q, r⟩ := h
    exact ⟨a, vs, e, E.tk a vs q, RelEs.ex E xs vs r⟩
  | .ktup xs, v, h => by
    rw [RelE] at h ⊢
    obtain ⟨a, vs, e, q, r⟩ := h
    exact ⟨a, vs, e, E.tup a vs q, RelEs.ex E xs vs r⟩
theorem RelEs.ex (E : Ex K m n H m' n' H') : ∀ (es : List EV) (vs : List V), RelEs K m n H es vs → RelEs K m' n' H' es vs
  | [], vs, h => by rw [RelEs] at h ⊢; exact h
  | x :: xs, vs, h => by
    rw [RelEs] at h ⊢
    obtain ⟨v, r, e, q, t⟩ := h
    exact ⟨v, r, e, RelE.ex E x v q, RelEs.ex E xs r t⟩
end
theorem RelKV.ex (E : Ex K m n H m' n' H') : ∀ (l : List (EV × EV)) (l' : List (L2.Key × V)), RelKV K m n H l l' → RelKV K m' n' H' l l'
  | [], l', h => h
  | (k, x) :: r, l', h => by
    obtain ⟨k', v, l2, e, a, b, c⟩ := h
    exact ⟨k', v, l2, e, RelE.ex E _ _ a, RelE.ex E _ _ b, RelKV.ex E r l2 c⟩
theorem RelKT.ex (E : Ex K m n H m' n' H') : ∀ (l : List (EV × EV)) (l' : List (List L2.Key × V)), RelKT K m n H l l' → RelKT K m' n' H' l l'
  | [], l', h => h
  | (k, x) :: r, l', h => by
    obtain ⟨k', v, l2, e, a, b, c⟩ := h
    exact ⟨k', v, l2, e, a, RelE.ex E _ _ b, RelKT.ex E r l2 c⟩
theorem RelFs.ex (E : Ex K m n H m' n' H') : ∀ (l : List (Str × EV)) (l' : List (Str × V)), RelFs K m n H l l' → RelFs K m' n' H' l l'
  | [], l', h => h
  | (k, x) :: r, l', h => by
    obtain ⟨v, l2, e, b, c⟩ := h
    exact ⟨v, l2, e, RelE.ex E _ _ b, RelFs.ex E r l2 c⟩
theorem RelN.ex (E : Ex K m n H m' n' H') {env : En} {σ : L2.St} (R : RelN K m n H env σ) : RelN K m' n' H' env σ :=
  ⟨R.1, fun i v h => let ⟨x, a, b⟩ := R.2 i v h; ⟨x, a, RelE.ex E _ _ b⟩⟩
theorem RelO.ex (E : Ex K m n H m' n' H') {o : EO} {a : Addr} (he : H' a = H a) (hx : ∀ b, (H b = some (.xd []) → H' b = some (.xd [])) ∧ (H b = some (.own a) → H' b = some (.own a))) (R : RelO K m n H o a) : RelO K m' n' H' o a := by
  cases o with
  | lst xs => obtain ⟨vs, e, r⟩ := R; exact ⟨vs, he.trans e, RelEs.ex E _ _ r⟩
  | frz xs =>
    obtain ⟨vs, e, r⟩ := R
    refine ⟨vs, ?_, RelEs.ex E _ _ r⟩
    rcases e with ⟨o, e⟩ | e
    · exact .inl ⟨o, he.trans e⟩
    · exact .inr e
  | dic xs => obtain ⟨vs, e, r⟩ := R; exact ⟨vs, he.trans e, RelKV.ex E _ _ r⟩
  | dct xs => obtain ⟨vs, e, r⟩ := R; exact ⟨vs, he.trans e, RelKT.ex E _ _ r⟩
  | ins C fs => obtain ⟨dx, vs, e, r⟩ := R; exact ⟨dx, vs, he.trans e, RelFs.ex E _ _ r⟩
  | xob fs => obtain ⟨l, e, r⟩ := R; exact ⟨l, he.trans e, RelFs.ex E _ _ r⟩
  | mark m0 n0 H0 => exact Ex.trans R E
  | slo C fs =>
    obtain ⟨io, dx, ws, e, ne, hd, r⟩ := R
    refine ⟨io, dx, ws, ?_, ne, hd.imp (hx _).2 (hx _).1, fun i v q => let ⟨w, a, b⟩ := r i v q; ⟨w, a, RelE.ex E _ _ b⟩⟩
    rcases e with ⟨e, z⟩ | ⟨e, z⟩
    · exact .inl ⟨he.trans e, z⟩
    · exact .inr ⟨he.trans e, (hx _).1 z⟩
  | dlk o l xs => obtain ⟨e, r⟩ := R; exact ⟨he.trans e, RelKV.ex E _ _ r⟩
  | gone => obtain ⟨o, e, r⟩ := R; exact ⟨o, he.trans e, r⟩
theorem RelO.there {o : EO} {a : Addr} (R : RelO K m n H o a) (hf : isF o = false) : ∃ u, H a = some u ∧ NoTup u := by
  cases o with
  | lst xs => obtain ⟨vs, e, r⟩ := R; exact ⟨_, e, fun _ z => (nomatch z), fun _ _ z => (nomatch z), fun _ _ z => (nomatch z), fun _ z => (nomatch z), fun _ z => nomatch z⟩
  | frz xs => cases hf
  | dic xs => obtain ⟨vs, e, r⟩ := R; exact ⟨_, e, fun _ z => (nomatch z), fun _ _ z => (nomatch z), fun _ _ z => (nomatch z), fun _ z => (nomatch z), fun _ z => nomatch z⟩
  | dct xs => obtain ⟨vs, e, r⟩ := R; exact ⟨_, e, fun _ z => (nomatch z), fun _ _ z => (nomatch z), fun _ _ z => (nomatch z), fun _ z => (nomatch z), fun _ z => nomatch z⟩
  | ins C fs => obtain ⟨dx, vs, e, r⟩ := R; exact ⟨_, e, fun _ z => (nomatch z), fun _ _ z => (nomatch z), fun _ _ z => (nomatch z), fun _ z => (nomatch z), fun _ z => nomatch z⟩
  | xob fs => cases hf
  | mark m0 n0 H0 => cases hf
  | slo C fs =>
    obtain ⟨_, dx, ws, e, _, _, r⟩ := R
    rcases e with ⟨e, z⟩ | ⟨e, z⟩
    · exact ⟨_, e, fun _ z => (nomatch z), fun _ _ z => (nomatch z), fun _ _ z => (nomatch z), fun _ z => (nomatch z), fun _ z => nomatch z⟩
    · refine ⟨_, e, ?_⟩
      unfold SlX.SlO
      exact ⟨fun _ z => (nomatch z), fun _ _ z => (nomatch z), fun _ _ z => (nomatch z), fun _ z => (nomatch z), fun _ z => nomatch z⟩
  | dlk o l xs => obtain ⟨e, r⟩ := R; exact ⟨_, e, fun _ z => (nomatch z), fun _ _ z => (by cases z), fun _ _ z => (by cases z), fun _ z => (nomatch z), fun _ z => nomatch z⟩
  | gone => obtain ⟨o, e, r⟩ := R; exact ⟨o, e, r⟩
theorem RelO.off (E : Ex K m n H m' n' H') {o : EO} {a p : Addr} (R : RelO K m n H o a) (hp : ∀ u, H p = some u → NoTup u) (h : isF o = false → a ≠ p) (he : a ≠ p → H' a = H a) (hx : ∀ b, (H b = some (.xd []) → H' b = some (.xd [])) ∧ (H b = some (.own a) → H' b = some (.own a))) : RelO K m' n' H' o a := by
  by_cases z : a = p
  · subst z
    cases o with
    | frz xs =>
      obtain ⟨vs, e, r⟩ := R
      refine ⟨vs, ?_, RelEs.ex E _ _ r⟩
      rcases e with ⟨o, e⟩ | e
      · exact absurd rfl ((hp _ e).2.2.1 o vs)
      · exact .inr e
    | xob fs =>
      obtain ⟨l, e, r⟩ := R
      exact absurd rfl ((hp _ e).2.2.2.1 l)
    | mark m0 n0 H0 => exact Ex.trans R E
    | _ => exact absurd rfl (h rfl)
  · exact R.ex E (he z) hx
theorem RelEs.length : ∀ {es : List EV} {vs : List V}, RelEs K m n H es vs → es.length = vs.length
  | [], vs, h => by rw [RelEs] at h; subst h; rfl
  | x :: xs, vs, h => by
    rw [RelEs] at h
    obtain ⟨v, r, e, _, t⟩ := h
    subst e
    simp [RelEs.length t]
theorem RelEs.at : ∀ {es : List EV} {vs : List V} {i : Nat} {x : EV}, RelEs K m n H es vs → es[i]? = some x → ∃ v, vs[i]? = some v ∧ RelE K m n H x v
  | [], vs, i, x, h, e => by simp at e
  | y :: ys, vs, 0, x, h, e => by
    rw [RelEs] at h
    obtain ⟨v, r, rfl, q, t⟩ := h
    simp at e; subst e
    exact ⟨v, rfl, q⟩
  | y :: ys, vs, i + 1, x, h, e => by
    rw [RelEs] at h
    obtain ⟨v, r, rfl, q, t⟩ := h
    obtain ⟨u, a, b⟩ := RelEs.at (i := i) (x := x) t (by simpa using e)
    exact ⟨u, by simpa using a, b⟩
theorem RelEs.app : ∀ {es fs : List EV} {vs us : List V}, RelEs K m n H es vs → RelEs K m n H fs us → RelEs K m n H (es ++ fs) (vs ++ us)
  | [], fs, vs, us, h, g => by rw [RelEs] at h; subst h; exact g
  | y :: ys, fs, vs, us, h, g => by
    rw [RelEs] at h
    obtain ⟨v, r, rfl, q, t⟩ := h
    rw [List.cons_append, List.cons_append, RelEs]
    exact ⟨v, r ++ us, rfl, q, RelEs.app t g⟩
theorem RelEs.nil : RelEs K m n H [] [] := by rw [RelEs]
theorem RelEs.cons {x : EV} {v : V} {xs : List EV} {vs : List V} (a : RelE K m n H x v) (b : RelEs K m n H xs vs) : RelEs K m n H (x :: xs) (v :: vs) := by
  rw [RelEs]; exact ⟨v, vs, rfl, a, b⟩
theorem RelEs.one {x : EV} {v : V} (a : RelE K m n H x v) : RelEs K m n H [x] [v] := .cons a .nil
theorem RelEs.take : ∀ {es : List EV} {vs : List V} (k : Nat), RelEs K m n H es vs → RelEs K m n H (es.take k) (vs.take k)
  | _, _, 0, _ => by simpa using RelEs.nil
  | [], vs, k + 1, h => by rw [RelEs] at h; subst h; simpa using RelEs.nil
  | y :: ys, vs, k + 1, h => by
    rw [RelEs] at h
    obtain ⟨v, r, rfl, q, t⟩ := h
    rw [List.take_succ_cons, List.take_succ_cons]
    exact .cons q (RelEs.take k t)
theorem RelEs.drop : ∀ {es : List EV} {vs : List V} (k : Nat), RelEs K m n H es vs → RelEs K m n H (es.drop k) (vs.drop k)
  | _, _, 0, h => by simpa using h
  | [], vs, k + 1, h => by rw [RelEs] at h; subst h; simpa using RelEs.nil
  | y :: ys, vs, k + 1, h => by
    rw [RelEs] at h
    obtain ⟨v, r, rfl, q, t⟩ := h
    rw [List.drop_succ_cons, List.drop_succ_cons]
    exact RelEs.drop k t
theorem RelEs.set {x : EV} {v : V} (a : RelE K m n H x v) : ∀ {es : List EV} {vs : List V} (k : Nat), RelEs K m n H es vs → RelEs K m n H (es.set k x) (vs.set k v)
  | [], vs, k, h => by rw [RelEs] at h; subst h; simpa using RelEs.nil
  | y :: ys, vs, 0, h => by
    rw [RelEs] at h
    obtain ⟨w, r, rfl, q, t⟩ := h
    exact .cons a t
  | y :: ys, vs, k + 1, h => by
    rw [RelEs] at h
    obtain ⟨w, r, rfl, q, t⟩ := h
    exact .cons q (RelEs.set a k t)
theorem RelEs.reverse : ∀ {es : List EV} {vs : List V}, RelEs K m n H es vs → RelEs K m n H es.reverse vs.reverse
  | [], vs, h => by rw [RelEs] at h; subst h; simpa using RelEs.nil
  | y :: ys, vs, h => by
    rw [RelEs] at h
    obtain ⟨w, r, rfl, q, t⟩ := h
    rw [List.reverse_cons, List.reverse_cons]
    exact RelEs.app (RelEs.reverse t) (.one q)

theorem sqT_upd {a p : Addr} {xs : List V} {o : HO} (h : SqT K H a xs) (hp : ∀ u, H p = some u → NoTup u) : SqT K (upd H p o) a xs := by
  rcases h with h | h
  · refine .inl ?_
    have ne : a ≠ p := by
      rintro rfl
      rcases h with h | ⟨q, h⟩
      · exact (hp _ h).1 _ rfl
      · exact (hp _ h).2.1 _ _ rfl
    rcases h with h | ⟨q, h⟩
    · exact .inl (by rw [upd_ne ne]; exact h)
    · exact .inr ⟨q, by rw [upd_ne ne]; exact h⟩
  · exact .inr h
theorem upd_xd {p a : Addr} {o : HO} (hp : ∀ u, H p = some u → NoTup u) : ∀ b, (H b = some (.xd []) → upd H p o b = some (.xd [])) ∧ (H b = some (.own a) → upd H p o b = some (.own a)) := fun b => by
  refine ⟨fun e => ?_, fun e => ?_⟩
  · have ne : b ≠ p := by
      rintro rfl
      exact (hp _ e).2.2.2.1 _ rfl
    rw [upd_ne ne]; exact e
  · have ne : b ≠ p := by
      rintro rfl
      exact (hp _ e).2.2.2.2 _ rfl
    rw [upd_ne ne]; exact e
theorem free_no {p : Addr} (hp : H p = none) : ∀ u, H p = some u → NoTup u := fun u e => by rw [hp] at e; cases e
theorem tk_upd {a p : Addr} {xs : List V} {o : HO} (h : H a = some (.tup xs)) (hp : ∀ u, H p = some u → NoTup u) : upd H p o a = some (.tup xs) := by
  have ne : a ≠ p := by
    rintro rfl
    exact (hp _ h).1 _ rfl
  rw [upd_ne ne]; exact h
theorem Ex.tup1 {p : Addr} {o : HO} (hp : H p = none) : Ex K m n H m n (upd H p o) :=
  ⟨Nat.le_refl _, fun _ _ => rfl, fun a xs h => sqT_upd h (free_no hp), fun a xs h => tk_upd h (free_no hp)⟩
theorem RelH.tup {h : EH} {p : Addr} {o : HO} (R : RelH K m h H) (hp : H p = none) : RelH K m h (upd H p o) := by
  refine ⟨fun r e hr => ?_, R.inj⟩
  have q := R.obj r e hr
  refine q.off (Ex.tup1 hp) (free_no hp) (fun hf => ?_) (fun z => upd_ne z) (upd_xd (free_no hp))
  obtain ⟨u, hu, _⟩ := q.there hf
  exact ne_of_none hu hp
def mput (m : Nat → Addr) (n : Nat) (p : Addr) : Nat → Addr := fun r => if r = n then p else m r
theorem mput_lt {p : Addr} {r : Nat} (h : r < n) : mput m n p r = m r := if_neg (Nat.ne_of_lt h)
theorem mput_at {p : Addr} : mput m n p n = p := if_pos rfl
theorem Ex.new {h : EH} {p : Addr} {o : HO} {e : EO} (hp : H p = none) : Ex K m h.length H (mput m h.length p) (h ++ [e]).length (upd H p o) :=
  ⟨by simp, fun r hr => mput_lt hr, fun a xs q => sqT_upd q (free_no hp), fun a xs q => tk_upd q (free_no hp)⟩
theorem app_cases {h : EH} {e u : EO} {r : Nat} (hr : (h ++ [e])[r]? = some u) : (r < h.length ∧ h[r]? = some u) ∨ (r = h.length ∧ u = e) := by
  by_cases q : r < h.length
  · rw [List.getElem?_append_left q] at hr
    exact .inl ⟨q, hr⟩
  · rw [List.getElem?_append_right (by omega)] at hr
    have : r - h.length = 0 := by
      have := (List.getElem?_eq_some_iff.mp hr).1
      simp at this; omega
    rw [this] at hr
    simp at hr
    exact .inr ⟨by omega, hr.symm⟩
theorem RelH.new {h : EH} {p : Addr} {o : HO} {e : EO} (R : RelH K m h H) (hp : H p = none)
    (new : RelO K (mput m h.length p) (h ++ [e]).length (upd H p o) e p) : RelH K (mput m h.length p) (h ++ [e]) (upd H p o) := by
  have there : ∀ r u, h[r]? = some u → isF u = false → m r ≠ p := fun r u hr hf => by
    obtain ⟨w, hw, _⟩ := (R.obj r u hr).there hf
    exact ne_of_none hw hp
  refine ⟨fun r u hr => ?_, fun r q u v hr hq fu fv z => ?_⟩
  · rcases app_cases hr with ⟨q, hr⟩ | ⟨rfl, rfl⟩
    · rw [mput_lt q]
      exact (R.obj r u hr).off (Ex.new hp) (free_no hp) (there r u hr) (fun z => upd_ne z) (upd_xd (free_no hp))
    · rw [mput_at]; exact new
  · rcases app_cases hr with ⟨a, hr'⟩ | ⟨a, a'⟩ <;> rcases app_cases hq with ⟨b, hq'⟩ | ⟨b, b'⟩
    · rw [mput_lt a, mput_lt b] at z; exact R.inj r q u v hr' hq' fu fv z
    · rw [b, mput_lt a, mput_at] at z; exact absurd z (there r u hr' fu)
    · rw [a, mput_lt b, mput_at] at z; exact absurd z.symm (there q v hq' fv)
    · rw [a, b]
theorem RelH.tops {h : EH} {r : Nat} {e : EO} (R : RelH K m h H) (hr : h[r]? = some e) (hf : isF e = false := by rfl) : ∀ u, H (m r) = some u → NoTup u := fun u z => by
  obtain ⟨w, hw, nt⟩ := (R.obj r e hr).there hf
  rw [hw] at z; cases z; exact nt
theorem Ex.write {h : EH} {r : Nat} {o : HO} {e e' : EO} (R : RelH K m h H) (hr : h[r]? = some e) (hf : isF e = false := by rfl) : Ex K m h.length H m (h.set r e').length (upd H (m r) o) :=
  ⟨by simp, fun _ _ => rfl, fun a xs q => sqT_upd q (R.tops hr hf), fun a xs q => tk_upd q (R.tops hr hf)⟩
theorem RelH.write {h : EH} {r : Nat} {o : HO} {e e' : EO} (R : RelH K m h H) (hr : h[r]? = some e)
    (new : RelO K m (h.set r e').length (upd H (m r) o) e' (m r)) (hf : isF e = false := by rfl) : RelH K m (h.set r e') (upd H (m r) o) := by
  have hlt := (List.getElem?_eq_some_iff.mp hr).1
  have set_cases : ∀ {q : Nat} {u : EO}, (h.set r e')[q]? = some u → (q = r ∧ u = e') ∨ (q ≠ r ∧ h[q]? = some u) := fun {q u} hq => by
    by_cases z : r = q
    · subst z
      rw [List.getElem?_set_self hlt] at hq
      cases hq
      exact .inl ⟨rfl, rfl⟩
    · rw [List.getElem?_set_ne z] at hq
      exact .inr ⟨fun y => z y.symm, hq⟩
  refine ⟨fun q u hq => ?_, fun q p u v hq hp fu fv z => ?_⟩
  · rcases set_cases hq with ⟨rfl, rfl⟩ | ⟨z, hq⟩
    · exact new
    · exact (R.obj q u hq).off (Ex.write R hr hf) (R.tops hr hf) (fun fu y => z (R.inj q r u e hq hr fu hf y)) (fun y => upd_ne y) (upd_xd (R.tops hr hf))
  · rcases set_cases hq with ⟨a, a'⟩ | ⟨a, hq'⟩ <;> rcases set_cases hp with ⟨b, b'⟩ | ⟨b, hp'⟩
    · rw [a, b]
    · rw [a] at z; exact absurd (R.inj p r v e hp' hr fv hf z.symm) b
    · rw [b] at z; exact absurd (R.inj q r u e hq' hr fu hf z) a
    · exact R.inj q p u v hq' hp' fu fv z

def Kon (K : PySem.W.Frag) (m : Nat → Addr) (n : Nat) (H : Hp) (P : EK) (Q : VK) : Prop :=
  ∀ v h', P v h' → ∀ (m' : Nat → Addr) (H' : Hp) (x : V), Ex K m n H m' h'.length H' → RelH K m' h' H' → RelE K m' h'.length H' v x → Q x H'
theorem Kon.ex {P : EK} {Q : VK} (E : Ex K m n H m' n' H') (k : Kon K m n H P Q) : Kon K m' n' H' P Q := fun v h' p m2 H2 x E2 R r => k v h' p m2 H2 x (E.trans E2) R r
structure At (K : PySem.W.Frag) (env : En) (h : EH) (m : Nat → Addr) (σ : L2.St) (H : Hp) : Prop where
  hp : RelH K m h H
  nm : RelN K m h.length H env σ
theorem At.ex {env : En} {h h' : EH} {σ : L2.St} (a : At K env h m σ H) (E : Ex K m h.length H m' h'.length H') (R : RelH K m' h' H') : At K env h' m' σ H' := ⟨R, a.nm.ex E⟩
def up (K : PySem.W.Frag) (t : LT) : TE := fun σ H Q => ∃ m env h P, At K env h m σ H ∧ t env h P ∧ Kon K m h.length H P Q
structure LE (X : Cx) (e : Expr) (t : LT) : Prop where
  pe : PE X e (up X.K t)
abbrev LTt := En → EH → (Bool → EH → Prop) → Prop
def upT (K : PySem.W.Frag) (t : LTt) : TT := fun σ H Q => ∃ m env h P, At K env h m σ H ∧ t env h P ∧
  ∀ b h', P b h' → ∀ (m' : Nat → Addr) (H' : Hp), Ex K m h.length H m' h'.length H' → RelH K m' h' H' → Q b H'
structure LTe (X : Cx) (e : Expr) (t : LTt) : Prop where
  pt : PT X e (upT X.K t)
structure LWe (X : Cx) (e : Expr) (t : LTt) : Prop where
  pw : PW X e (upT X.K t)
abbrev LA := En → EH → (List EV → EH → Prop) → Prop
def KonA (K : PySem.W.Frag) (m : Nat → Addr) (n : Nat) (H : Hp) (P : List EV → EH → Prop) (Q : List V → Hp → Prop) : Prop :=
  ∀ vs h', P vs h' → ∀ (m' : Nat → Addr) (H' : Hp) (xs : List V), Ex K m n H m' h'.length H' → RelH K m' h' H' → RelEs K m' h'.length H' vs xs → Q xs H'
def upA (K : PySem.W.Frag) (t : LA) : TA := fun σ H Q => ∃ m env h P, At K env h m σ H ∧ t env h P ∧ KonA K m h.length H P Q
structure LAs (X : Cx) (es : List Expr) (t : LA) : Prop where
  pa : PA X es (upA X.K t)
structure LEnds where
  nx : En → EH → Prop
  rt : EK
  bk : En → EH → Prop := fun _ _ => False
  ct : En → EH → Prop := fun _ _ => False
abbrev LS := LEnds → En → EH → Prop
def KonS (K : PySem.W.Frag) (m : Nat → Addr) (n : Nat) (H : Hp) (P : En → EH → Prop) (Q : L2.St → Hp → Prop) : Prop :=
  ∀ env' h', P env' h' → ∀ (m' : Nat → Addr) (H' : Hp) (σ' : L2.St), Ex K m n H m' h'.length H' → At K env' h' m' σ' H' → Q σ' H'
theorem KonS.ex {P : En → EH → Prop} {Q : L2.St → Hp → Prop} (E : Ex K m n H m' n' H') (k : KonS K m n H P Q) : KonS K m' n' H' P Q := fun v h' p m2 H2 x E2 R => k v h' p m2 H2 x (E.trans E2) R
structure KonE (K : PySem.W.Frag) (m : Nat → Addr) (n : Nat) (H : Hp) (P : LEnds) (Q : Ends) : Prop where
  nx : KonS K m n H P.nx Q.nx
  rt : Kon K m n H P.rt Q.rt
  bk : KonS K m n H P.bk Q.bk
  ct : KonS K m n H P.ct Q.ct
theorem KonE.ex {P : LEnds} {Q : Ends} (E : Ex K m n H m' n' H') (k : KonE K m n H P Q) : KonE K m' n' H' P Q := ⟨k.nx.ex E, k.rt.ex E, k.bk.ex E, k.ct.ex E⟩
def upS (K : PySem.W.Frag) (t : LS) : TS := fun D σ H => ∃ m env h P, At K env h m σ H ∧ t P env h ∧ KonE K m h.length H P D
structure LSt (X : Cx) (st : Stmt) (t : LS) : Prop where
  ps : PS X st (upS X.K t)
structure LSs (X : Cx) (st : List Stmt) (t : LS) : Prop where
  pss : PSs X st (upS X.K t)
theorem PE.imp {X : Cx} {e : Expr} {t t' : TE} (h : PE X e t) (i : ∀ σ H Q, t' σ H Q → t σ H Q) : PE X e t' := ⟨fun pins s σ H Q I q => h.run pins s σ H Q I (i σ H Q q)⟩
theorem PT.imp {X : Cx} {e : Expr} {t t' : TT} (h : PT X e t) (i : ∀ σ H Q, t' σ H Q → t σ H Q) : PT X e t' := ⟨fun pins s σ H Q I q => h.run pins s σ H Q I (i σ H Q q)⟩
theorem PW.imp {X : Cx} {e : Expr} {t t' : TT} (h : PW X e t) (i : ∀ σ H Q, t' σ H Q → t σ H Q) : PW X e t' := ⟨fun wh pins s σ H Q I q => h.run wh pins s σ H Q I (i σ H Q q)⟩
theorem PA.imp {X : Cx} {e : List Expr} {t t' : TA} (h : PA X e t) (i : ∀ σ H Q, t' σ H Q → t σ H Q) : PA X e t' := ⟨fun p pins s σ H Q I q => h.run p pins s σ H Q I (i σ H Q q)⟩
theorem PS.imp {X : Cx} {e : Stmt} {t t' : TS} (h : PS X e t) (i : ∀ D σ H, t' D σ H → t D σ H) : PS X e t' := ⟨fun pins s σ H D I q => h.run pins s σ H D I (i D σ H q)⟩
theorem PSs.imp {X : Cx} {e : List Stmt} {t t' : TS} (h : PSs X e t) (i : ∀ D σ H, t' D σ H → t D σ H) : PSs X e t' := ⟨fun pins s σ H D I q => h.run pins s σ H D I (i D σ H q)⟩
theorem PI.imp {X : Cx} {tg e : Expr} {t t' : TI} (h : PI X tg e t) (i : ∀ σ H Q, t' σ H Q → t σ H Q) : PI X tg e t' := ⟨fun pins s σ H Q I q => h.run pins s σ H Q I (i σ H Q q)⟩

def lVar (i : Nat) : LT := fun env h P => match env[i]? with
  | some (some v) => P v h
  | _ => False
def lC (v : EV) : LT := fun _ h P => P v h
section
variable {X : Cx}
theorem le_var (i : Nat) {x : Str} {pos : Pos} (hN : X.N[i]? = some x := by rfl) (hv : Vis X.env.scope x := by first | exact Or.inl rfl | exact Or.inr (Or.inl rfl) | exact Or.inr (Or.inr rfl))
    (hd : (x == ("__debug__" : Str)) = false := by decide) (hcd : (x == ("__classdict__" : Str)) = false := by decide) : LE X (.Name x pos) (lVar i) :=
  ⟨PE.imp (pe_var hN hv hd hcd) fun σ H Q ⟨m, env, h, P, a, t, k⟩ => by
    unfold lVar at t
    split at t
    · rename_i v e
      obtain ⟨x, ex, rx⟩ := a.nm.2 i v e
      exact ⟨x, ex, k v h t m H x .refl a.hp rx⟩
    · exact t.elim⟩
theorem le_c {e : Expr} {v : V} (x : EV) (h : PE X e (tC v)) (r : ∀ m n H, RelE X.K m n H x v) : LE X e (lC x) :=
  ⟨PE.imp h fun σ H Q ⟨m, env, h, P, a, t, k⟩ => k x h t m H v .refl a.hp (r _ _ _)⟩
theorem le_int {i j pos} : LE X (.Constant (.int i) j pos) (lC (.int i)) := le_c _ pe_int fun _ _ _ => by rw [RelE]
theorem le_bl {i j pos} : LE X (.Constant (.bool i) j pos) (lC (.bl i)) := le_c _ pe_bl fun _ _ _ => by rw [RelE]
theorem le_non {j pos} : LE X (.Constant .none j pos) (lC .non) := le_c _ pe_non fun _ _ _ => by rw [RelE]
theorem le_str (l : List Nat) {x j pos} (h : x = S l := by decide +kernel) : LE X (.Constant (.str x) j pos) (lC (.str l)) := le_c _ pe_str fun _ _ _ => by rw [RelE, h]
theorem le_gref (a : Addr) {x : Str} {pos : Pos} (hg : Gl X x) (hm : X.mg x = some (.ref a)) (hd : (x == ("__debug__" : Str)) = false := by decide) : LE X (.Name x pos) (lC (.adr a)) :=
  le_c _ (pe_glob (v := .ref a) hg hm rfl hd) fun _ _ _ => by rw [RelE]
end
end
end Y

namespace Y
open PySem PySem.Spec PyProof.Rows L2

mutual
inductive Dat (h : EH) : Nat → EV → PyData → Prop
  | non {n : Nat} : Dat h n .non .none
  | bl {n : Nat} (b : Bool) : Dat h n (.bl b) (.bool b)
  | int {n : Nat} (i : Int) : Dat h n (.int i) (.int i)
  | str {n : Nat} (s : List Nat) : Dat h n (.str s) (.str (S s))
  | tup {n : Nat} {xs : List EV} {ds : List PyData} : Dats h n xs ds → Dat h (n + 1) (.tup xs) (.tuple ds)
  | ktup {n : Nat} {xs : List EV} {ds : List PyData} : Dats h n xs ds → Dat h (n + 1) (.ktup xs) (.tuple ds)
  | lst {n : Nat} {r : Nat} {xs : List EV} {ds : List PyData} : h[r]? = some (.lst xs) → Dats h n xs ds → Dat h (n + 1) (.ref r) (.list ds)
inductive Dats (h : EH) : Nat → List EV → List PyData → Prop
  | nil {n : Nat} : Dats h n [] []
  | cons {n : Nat} {x : EV} {xs : List EV} {d : PyData} {ds : List PyData} : Dat h n x d → Dats h n xs ds → Dats h n (x :: xs) (d :: ds)
end
section
variable {K : PySem.W.Frag} {m : Nat → Addr} {H : Hp} {h : EH}
mutual
theorem Dat.dp (R : RelH K m h H) : ∀ (d : PyData) (n : Nat) (v : EV) (x : V), Dat h n v d → RelE K m h.length H v x → Dp K H x d
  | .none, _, _, _, a, r => by cases a; rw [RelE] at r; subst r; exact .non
  | .bool b, _, _, _, a, r => by cases a; rw [RelE] at r; subst r; exact .bl b
  | .int b, _, _, _, a, r => by cases a; rw [RelE] at r; subst r; exact .int b
  | .str b, _, _, _, a, r => by cases a; rw [RelE] at r; subst r; exact .str _
  | .tuple ds, _, _, _, a, r => by
    cases a with
    | tup as =>
      rw [RelE] at r
      obtain ⟨p, vs, e, q, t⟩ := r
      subst e
      exact .tup (SqT.of q) (Dats.dp R ds _ _ _ as t)
    | ktup as =>
      rw [RelE] at r
      obtain ⟨p, vs, e, q, t⟩ := r
      subst e
      exact .tup q (Dats.dp R ds _ _ _ as t)
  | .list ds, _, _, _, a, r => by
    cases a with
    | lst hr as =>
      rw [RelE] at r
      obtain ⟨hl, e⟩ := r
      subst e
      obtain ⟨vs, hv, t⟩ := R.obj _ _ hr
      exact .lst (SqL.of hv) (Dats.dp R ds _ _ _ as t)
  | .dict _, _, _, _, a, _ => by cases a
theorem Dats.dp (R : RelH K m h H) : ∀ (ds : List PyData) (n : Nat) (vs : List EV) (xs : List V), Dats h n vs ds → RelEs K m h.length H vs xs → DpAll K H xs ds
  | [], _, _, _, a, r => by cases a; rw [RelEs] at r; subst r; exact .nil
  | d :: ds, _, _, _, a, r => by
    cases a with
    | cons a1 a2 =>
      rw [RelEs] at r
      obtain ⟨v, l, e, r1, r2⟩ := r
      subst e
      exact .cons (Dat.dp R d _ _ _ a1 r1) (Dats.dp R ds _ _ _ a2 r2)
end
mutual
theorem Dat.dep : ∀ (d : PyData) (n : Nat) (v : EV), Dat h n v d → d.depth ≤ n ∧ d.plain = true
  | .none, _, _, a => by simp [PyData.depth, PyData.plain]
  | .bool b, _, _, a => by simp [PyData.depth, PyData.plain]
  | .int b, _, _, a => by simp [PyData.depth, PyData.plain]
  | .str b, _, _, a => by simp [PyData.depth, PyData.plain]
  | .tuple ds, _, _, a => by
    cases a with
    | tup as =>
      have := Dats.dep ds _ _ as
      simp only [PyData.depth, PyData.plain]
      exact ⟨by omega, this.2⟩
    | ktup as =>
      have := Dats.dep ds _ _ as
      simp only [PyData.depth, PyData.plain]
      exact ⟨by omega, this.2⟩
  | .list ds, _, _, a => by
    cases a with
    | lst hr as =>
      have := Dats.dep ds _ _ as
      simp only [PyData.depth, PyData.plain]
      exact ⟨by omega, this.2⟩
  | .dict _, _, _, a => by cases a
theorem Dats.dep : ∀ (ds : List PyData) (n : Nat) (vs : List EV), Dats h n vs ds → PyData.depthAll ds ≤ n ∧ PyData.plainAll ds = true
  | [], _, _, a => by simp [PyData.depthAll, PyData.plainAll]
  | d :: ds, _, _, a => by
    cases a with
    | cons a1 a2 =>
      have h1 := Dat.dep d _ _ a1
      have h2 := Dats.dep ds _ _ a2
      simp only [PyData.depthAll, PyData.plainAll, h1.2, h2.2]
      exact ⟨by omega, rfl⟩
end
end

abbrev LO := EV → EV → EH → EK → Prop
def LOp (K : PySem.W.Frag) (r : R2) (o : LO) : Prop :=
  ∀ (m : Nat → Addr) (h : EH) (H : Hp) (v w : EV) (x y : V) (P : EK) (Q : VK), RelH K m h H → RelE K m h.length H v x → RelE K m h.length H w y → o v w h P → Kon K m h.length H P Q → r x y H Q
def LOpR (X : Cx) (f : Value → Value → Sem Value) (o : LO) : Prop := ∃ r, OpR X f r ∧ LOp X.K r o
def lOp (o : LO) (ta tb : LT) : LT := fun env h P => ta env h fun x h1 => tb env h1 fun y h2 => o x y h2 P
def lB (t : LT) : LTt := fun env h P => t env h fun v h1 => match v with
  | .bl b => P b h1
  | _ => False
theorem Kon.same {K : PySem.W.Frag} {m : Nat → Addr} {H : Hp} {h : EH} {P : EK} {Q : VK} (k : Kon K m h.length H P Q) (R : RelH K m h H) {v : EV} {x : V} (p : P v h) (r : RelE K m h.length H v x) : Q x H := k v h p m H x .refl R r
theorem Kon.tup {K : PySem.W.Frag} {m : Nat → Addr} {H : Hp} {h : EH} {P : EK} {Q : VK} (k : Kon K m h.length H P Q) (R : RelH K m h H) {vs : List EV} {xs : List V} (p : P (.tup vs) h) (r : RelEs K m h.length H vs xs) {a : Addr} (ha : H a = none) : Q (.ref a) (upd H a (.tup xs)) :=
  k _ h p m _ _ (Ex.tup1 ha) (R.tup ha) (by rw [RelE]; exact ⟨a, xs, rfl, upd_same, RelEs.ex (Ex.tup1 ha) _ _ r⟩)
theorem Kon.lst {K : PySem.W.Frag} {m : Nat → Addr} {H : Hp} {h : EH} {P : EK} {Q : VK} (k : Kon K m h.length H P Q) (R : RelH K m h H) {vs : List EV} {xs : List V} (p : P (.ref h.length) (h ++ [.lst vs])) (r : RelEs K m h.length H vs xs) {a : Addr} (ha : H a = none) : Q (.ref a) (upd H a (.lst xs)) := by
  have E : Ex K m h.length H (mput m h.length a) (h ++ [EO.lst vs]).length (upd H a (.lst xs)) := Ex.new ha
  refine k _ _ p _ _ _ E (R.new ha ⟨xs, upd_same, RelEs.ex E _ _ r⟩) ?_
  rw [RelE]
  exact ⟨by simp, by rw [mput_at]⟩
section
variable {X : Cx} {a b : Expr} {ta tb : LT} {pos : Pos} {o : LO}
theorem up_bin {K : PySem.W.Frag} {r : R2} (s : LOp K r o) (σ : L2.St) (H : Hp) (Q : VK) (q : up K (lOp o ta tb) σ H Q) : tOp r (up K ta) (up K tb) σ H Q := by
  obtain ⟨m, env, h, P, at_, t, k⟩ := q
  refine ⟨m, env, h, _, at_, t, fun x h1 p1 m1 H1 u E1 R1 r1 => ⟨m1, env, h1, _, at_.ex E1 R1, p1, fun y h2 p2 m2 H2 w E2 R2 r2 => ?_⟩⟩
  exact s _ _ _ _ _ _ _ P Q R2 (RelE.ex E2 _ _ r1) r2 p2 (k.ex (E1.trans E2))
theorem le_op {op : Operator} (ho : LOpR X (binaryOp op) o) (ha : LE X a ta) (hb : LE X b tb) : LE X (.BinOp a op b pos) (lOp o ta tb) := by
  obtain ⟨r, hr, s⟩ := ho
  exact ⟨PE.imp (pe_op hr ha.pe hb.pe) (up_bin s)⟩
theorem le_cmp {op : CmpOp} (ho : LOpR X (compareOp op) o) (ha : LE X a ta) (hb : LE X b tb) (hm : behindInMarks op b = false := by first | exact nomark _ | with_unfolding_all rfl) : LE X (.Compare a [op] [b] pos) (lOp o ta tb) := by
  obtain ⟨r, hr, s⟩ := ho
  exact ⟨PE.imp (pe_cmpR hr ha.pe hb.pe hm) (up_bin s)⟩
theorem up_test {K : PySem.W.Frag} {t : LT} {tt : TE} (i : ∀ σ H Q, up K t σ H Q → tt σ H Q) (σ : L2.St) (H : Hp) (Q : Bool → Hp → Prop) (q : upT K (lB t) σ H Q) : tTest tt σ H Q := by
  obtain ⟨m, env, h, P, at_, t1, k⟩ := q
  refine i σ H _ ⟨m, env, h, _, at_, t1, fun v h1 p1 m1 H1 x E1 R1 r1 => ?_⟩
  cases v with
  | bl b =>
    rw [RelE] at r1
    exact ⟨b, r1, k b h1 p1 m1 H1 E1 R1⟩
  | _ => exact p1.elim
theorem lt_cmp {op : CmpOp} (ho : LOpR X (compareOp op) o) (ha : LE X a ta) (hb : LE X b tb) (hm : behindInMarks op b = false := by first | exact nomark _ | with_unfolding_all rfl) : LTe X (.Compare a [op] [b] pos) (lB (lOp o ta tb)) := by
  obtain ⟨r, hr, s⟩ := ho
  exact ⟨PT.imp (pt_cmpR hr ha.pe hb.pe hm) (up_test (up_bin s))⟩
def lChain (o o' : LO) (ta tb tc : LT) : LT := fun env h P => ta env h fun x h1 => tb env h1 fun y h2 => o x y h2 fun z h3 => match z with
  | .bl k => if k = true then tc env h3 fun w h4 => o' y w h4 P else P (.bl false) h3
  | _ => False
end

def addE : LO := fun v w h P => match v, w with
  | .int i, .int j => P (.int (i + j)) h
  | .int i, .bl b => P (.int (i + b2i b)) h
  | .str a, .str b => a.length + b.length ≤ sizeLine ∧ P (.str (a ++ b)) h
  | .tup a, .tup b => a.length + b.length ≤ sizeLine ∧ P (.tup (a ++ b)) h
  | .ref l, .ref r => match h[l]?, h[r]? with
    | some (.lst a), some (.lst b) => a.length + b.length ≤ sizeLine ∧ P (.ref h.length) (h ++ [.lst (a ++ b)])
    | _, _ => False
  | _, _ => False
theorem S_len (a : List Nat) : (S a).length = a.length := by
  show (S a).cps.size = _
  simp
theorem S_app (a b : List Nat) : S a ++ S b = S (a ++ b) := by
  show (⟨(a.toArray ++ b.toArray)⟩ : Str) = _
  simp
theorem lo_add {X : Cx} : LOpR X (binaryOp .Add) addE := by
  refine ⟨_, OpR.or op_add (OpR.or op_add_ib (OpR.or op_add_str (OpR.or op_catA op_cat))), ?_⟩
  intro m h H v w x y P Q R rx ry q k
  unfold addE at q
  split at q
  · rw [RelE] at rx ry
    exact .inl ⟨_, _, rx, ry, k.same R q (by rw [RelE])⟩
  · rw [RelE] at rx
    rw [RelE] at ry
    exact .inr (.inl ⟨_, _, rx, ry, k.same R q (by rw [RelE])⟩)
  · rw [RelE] at rx ry
    exact .inr (.inr (.inl ⟨_, _, rx, ry, by rw [S_len, S_len]; exact q.1, by rw [S_app]; exact k.same R q.2 (by rw [RelE])⟩))
  · rename_i a b
    rw [RelE] at rx ry
    obtain ⟨p, xs, rfl, hx, r1⟩ := rx
    obtain ⟨p', ys, rfl, hy, r2⟩ := ry
    refine .inr (.inr (.inr (.inl ⟨p, p', xs, ys, rfl, rfl, SqT.of hx, SqT.of hy, by rw [← r1.length, ← r2.length]; exact q.1, fun e => ?_, fun _ e => ?_, fun _ _ z hz => ?_⟩)))
    · subst e
      have : a = [] := by cases a with
        | nil => rfl
        | cons _ _ => have := r1.length; simp at this
      subst this
      exact k.same R q.2 (by rw [RelE]; exact ⟨p', ys, rfl, hy, r2⟩)
    · subst e
      have : b = [] := by cases b with
        | nil => rfl
        | cons _ _ => have := r2.length; simp at this
      subst this
      refine k.same R q.2 ?_
      rw [List.append_nil, RelE]
      exact ⟨p, xs, rfl, hx, r1⟩
    · exact k.tup R q.2 (r1.app r2) hz
  · rw [RelE] at rx ry
    obtain ⟨_, rfl⟩ := rx
    obtain ⟨_, rfl⟩ := ry
    split at q
    · rename_i e1 e2
      obtain ⟨xs, a1, r1⟩ := R.obj _ _ e1
      obtain ⟨ys, a2, r2⟩ := R.obj _ _ e2
      refine .inr (.inr (.inr (.inr ⟨_, _, xs, ys, rfl, rfl, a1, a2, by rw [← r1.length, ← r2.length]; exact q.1, fun z hz => ?_⟩)))
      exact k.lst R q.2 (r1.app r2) hz
    · exact q.elim
  · exact q.elim
def intE (C : Int → Int → Prop) (f : Int → Int → Int) : LO := fun v w h P => match v, w with
  | .int i, .int j => C i j ∧ P (.int (f i j)) h
  | _, _ => False
def intP (f : Int → Int → EV) : LO := fun v w h P => match v, w with
  | .int i, .int j => P (f i j) h
  | _, _ => False
theorem lo_int {X : Cx} {op : Operator} {C : Int → Int → Prop} {f : Int → Int → Int} (hr : OpR X (binaryOp op) (rI C fun i j => .int (f i j))) : LOpR X (binaryOp op) (intE C f) := by
  refine ⟨_, hr, ?_⟩
  intro m h H v w x y P Q R rx ry q k
  unfold intE at q
  split at q
  · rw [RelE] at rx ry
    exact ⟨_, _, rx, ry, q.1, k.same R q.2 (by rw [RelE])⟩
  · exact q.elim
theorem lo_intP {X : Cx} {fn : Value → Value → Sem Value} {f : Int → Int → EV} {g : Int → Int → V} (hr : OpR X fn (rI0 g)) (e : ∀ K m n H i j, RelE K m n H (f i j) (g i j)) : LOpR X fn (intP f) := by
  refine ⟨_, hr, ?_⟩
  intro m h H v w x y P Q R rx ry q k
  unfold intP at q
  split at q
  · rw [RelE] at rx ry
    exact ⟨_, _, rx, ry, k.same R q (e _ _ _ _ _ _)⟩
  · exact q.elim
abbrev subE : LO := intP fun i j => .int (i - j)
abbrev fdivE : LO := intE CDivW fun i j => i / j
abbrev modE : LO := intE (fun _ j => 0 < j) fun i j => i % j
abbrev powE : LO := intE CPow fun i j => i ^ j.toNat
theorem lo_sub {X : Cx} : LOpR X (binaryOp .Sub) subE := lo_intP op_sub fun _ _ _ _ _ _ => by rw [RelE]
theorem lo_fdiv {X : Cx} : LOpR X (binaryOp .FloorDiv) fdivE := lo_int op_fdivW
theorem lo_mod {X : Cx} : LOpR X (binaryOp .Mod) modE := lo_int op_mod
theorem lo_pow {X : Cx} : LOpR X (binaryOp .Pow) powE := lo_int op_pow
abbrev ltE : LO := intP fun i j => .bl (decide (i < j))
abbrev leE : LO := intP fun i j => .bl (decide (i ≤ j))
abbrev gtE : LO := intP fun i j => .bl (decide (j < i))
abbrev geE : LO := intP fun i j => .bl (decide (j ≤ i))
theorem lo_lt {X : Cx} : LOpR X (compareOp .Lt) ltE := lo_intP op_lt fun _ _ _ _ _ _ => by rw [RelE]
theorem lo_gt {X : Cx} : LOpR X (compareOp .Gt) gtE := lo_intP op_gt fun _ _ _ _ _ _ => by rw [RelE]
theorem lo_ge {X : Cx} : LOpR X (compareOp .GtE) geE := lo_intP op_ge fun _ _ _ _ _ _ => by rw [RelE]
def eqE (neg : Bool) : LO := fun v w h P => match v, w with
  | .int i, .int j => P (.bl (neg ^^ decide (i = j))) h
  | .str a, .str b => P (.bl (neg ^^ decide (a = b))) h
  | .bl a, .bl b => P (.bl (neg ^^ decide (a = b))) h
  | v, w => ∃ d e, Dat h 60 v d ∧ Dat h 60 w e ∧ P (.bl (neg ^^ PyData.eqv d e)) h
theorem S_inj {a b : List Nat} : S a = S b ↔ a = b := by
  constructor
  · intro e
    have : a.toArray = b.toArray := congrArg Str.cps e
    simpa using this
  · rintro rfl; rfl
theorem beqD {α : Type} [BEq α] [LawfulBEq α] [DecidableEq α] (a b : α) : (a == b) = decide (a = b) := by
  rw [Bool.eq_iff_iff, beq_iff_eq, decide_eq_true_eq]
theorem eq_sim {K : PySem.W.Frag} {m : Nat → Addr} {h : EH} {H : Hp} {v w : EV} {x y : V} {P : EK} {Q : VK} {neg : Bool} (R : RelH K m h H) (rx : RelE K m h.length H v x) (ry : RelE K m h.length H w y) (q : eqE neg v w h P) (k : Kon K m h.length H P Q) :
    ∃ d e, Dp K H x d ∧ Dp K H y e ∧ d.depth ≤ 60 ∧ d.plain = true ∧ e.plain = true ∧ Q (.bl (neg ^^ PyData.eqv d e)) H := by
  unfold eqE at q
  split at q
  · rename_i i j
    rw [RelE] at rx ry; subst rx ry
    refine ⟨_, _, .int i, .int j, by simp [PyData.depth], rfl, rfl, ?_⟩
    rw [show PyData.eqv (.int i) (.int j) = decide (i = j) by simp only [PyData.eqv]; exact beqD i j]
    exact k.same R q (by rw [RelE])
  · rename_i i j
    rw [RelE] at rx ry; subst rx ry
    refine ⟨_, _, .str _, .str _, by simp [PyData.depth], rfl, rfl, ?_⟩
    rw [show PyData.eqv (.str (S i)) (.str (S j)) = decide (i = j) by simp only [PyData.eqv]; rw [beqD]; exact decide_eq_decide.mpr S_inj]
    exact k.same R q (by rw [RelE])
  · rename_i i j
    rw [RelE] at rx ry; subst rx ry
    refine ⟨_, _, .bl _, .bl _, by simp [PyData.depth], rfl, rfl, ?_⟩
    rw [show PyData.eqv (.bool i) (.bool j) = decide (i = j) by simp only [PyData.eqv]; exact beqD i j]
    exact k.same R q (by rw [RelE])
  · obtain ⟨d, e, d1, e1, p⟩ := q
    exact ⟨d, e, Dat.dp R _ _ _ _ d1 rx, Dat.dp R _ _ _ _ e1 ry, (Dat.dep _ _ _ d1).1, (Dat.dep _ _ _ d1).2, (Dat.dep _ _ _ e1).2, k.same R p (by rw [RelE])⟩
def rEqP (neg : Bool) (K : PySem.W.Frag) : R2 := fun x y H Q => ∃ d e, Dp K H x d ∧ Dp K H y e ∧ d.depth ≤ 60 ∧ d.plain = true ∧ e.plain = true ∧ Q (.bl (neg ^^ PyData.eqv d e)) H
theorem lo_eq {X : Cx} (hu : X.A.units + 64 < cLine) : LOpR X (compareOp .Eq) (eqE false) := by
  refine ⟨rEqP false X.K, ?_, fun m h H v w x y P Q R rx ry q k => eq_sim R rx ry q k⟩
  intro pins s σ H x y v u Q I rx ry h
  obtain ⟨d, e, hd, he, dd, pd, pe, q⟩ := h
  obtain ⟨as, r1⟩ := Dp.reads I d x v hd rx
  obtain ⟨bs, r2⟩ := Dp.reads I e y u he ry
  exact PySem.SeqAt.eq_plain r1 r2 pd pe (by omega) ⟨.bl _, H, I, rfl, by simpa using q⟩
theorem lo_ne {X : Cx} (hu : X.A.units + 64 < cLine) : LOpR X (compareOp .NotEq) (eqE true) := by
  refine ⟨rEqP true X.K, ?_, fun m h H v w x y P Q R rx ry q k => eq_sim R rx ry q k⟩
  intro pins s σ H x y v u Q I rx ry h
  obtain ⟨d, e, hd, he, dd, pd, pe, q⟩ := h
  obtain ⟨as, r1⟩ := Dp.reads I d x v hd rx
  obtain ⟨bs, r2⟩ := Dp.reads I e y u he ry
  exact PySem.SeqAt.ne_plain r1 r2 pd pe (by omega) ⟨.bl _, H, I, rfl, by simpa using q⟩
theorem op_isB {X : Cx} : OpR X (compareOp .Is) (fun x y H Q => ∃ a b, x = .bl a ∧ y = .bl b ∧ Q (.bl (decide (a = b))) H) := by
  intro pins s σ H x y v u Q I rx ry h
  obtain ⟨a, b, rfl, rfl, q⟩ := h
  cases (show v = Value.bool a from rx)
  cases (show u = Value.bool b from ry)
  refine is_bool (fin_bl I q ?_)
  cases a <;> cases b <;> rfl
theorem op_notB {X : Cx} : OpR X (compareOp .IsNot) (fun x y H Q => ∃ a b, x = .bl a ∧ y = .bl b ∧ Q (.bl (!decide (a = b))) H) := by
  intro pins s σ H x y v u Q I rx ry h
  obtain ⟨a, b, rfl, rfl, q⟩ := h
  cases (show v = Value.bool a from rx)
  cases (show u = Value.bool b from ry)
  refine isnot_bool (fin_bl I q ?_)
  cases a <;> cases b <;> rfl
def isN (neg : Bool) : LO := fun v w h P => match w with
  | .non => match v with
    | .non => P (.bl (!neg)) h
    | _ => P (.bl neg) h
  | .bl b => match v with
    | .bl a => P (.bl (neg ^^ decide (a = b))) h
    | _ => False
  | _ => False
theorem lo_isN {X : Cx} : LOpR X (compareOp .Is) (isN false) := by
  refine ⟨_, OpR.or op_isN op_isB, ?_⟩
  intro m h H v w x y P Q R rx ry q k
  unfold isN at q
  split at q
  · rw [RelE] at ry
    refine .inl ⟨ry, ?_⟩
    split at q
    · rw [RelE] at rx; subst rx
      exact k.same R q (by rw [RelE]; rfl)
    · have : x ≠ .non := by
        rintro rfl
        rename_i hv
        cases v <;> simp [RelE] at rx
        exact hv rfl
      rw [decide_eq_false this]
      exact k.same R q (by rw [RelE]; try rfl)
  · rename_i b
    rw [RelE] at ry
    split at q
    · rename_i a
      rw [RelE] at rx
      subst rx ry
      exact .inr ⟨a, b, rfl, rfl, k.same R q (by rw [RelE]; first | rfl | simp)⟩
    · exact q.elim
  · exact q.elim
theorem lo_notN {X : Cx} : LOpR X (compareOp .IsNot) (isN true) := by
  refine ⟨_, OpR.or op_notN op_notB, ?_⟩
  intro m h H v w x y P Q R rx ry q k
  unfold isN at q
  split at q
  · rw [RelE] at ry
    refine .inl ⟨ry, ?_⟩
    split at q
    · rw [RelE] at rx; subst rx
      exact k.same R q (by rw [RelE]; rfl)
    · have : x ≠ .non := by
        rintro rfl
        rename_i hv
        cases v <;> simp [RelE] at rx
        exact hv rfl
      rw [decide_eq_false this]
      exact k.same R q (by rw [RelE]; try rfl)
  · rename_i b
    rw [RelE] at ry
    split at q
    · rename_i a
      rw [RelE] at rx
      subst rx ry
      exact .inr ⟨a, b, rfl, rfl, k.same R q (by rw [RelE]; first | rfl | simp)⟩
    · exact q.elim
  · exact q.elim
end Y

namespace Y
open PySem PySem.Spec PyProof.Rows L2

def truE (v : EV) (h : EH) (P : Bool → Prop) : Prop := match v with
  | .bl b => P b
  | .non => P false
  | .int i => P (i != 0)
  | .str s => s.length ≤ sizeLine ∧ P (!s.isEmpty)
  | .tup xs => P (!xs.isEmpty)
  | .ref r => match h[r]? with
    | some (.lst xs) => P (!xs.isEmpty)
    | some (.dic xs) => P (!xs.isEmpty)
    | _ => False
  | _ => False
def lT (t : LT) : LTt := fun env h P => t env h fun v h1 => truE v h1 fun b => P b h1
def lAnd (t u : LTt) : LTt := fun env h P => t env h fun c h1 => if c = true then u env h1 P else P false h1
def lOr (t u : LTt) : LTt := fun env h P => t env h fun c h1 => if c = true then P true h1 else u env h1 P
def lNot (t : LTt) : LTt := fun env h P => t env h fun c h1 => P (!c) h1
def lIf (t : LTt) (ta tb : LT) : LT := fun env h P => t env h fun c h1 => if c = true then ta env h1 P else tb env h1 P
def lAndV (ta tb : LT) : LT := fun env h P => ta env h fun v h1 => match v with
  | .bl c => if c = true then tb env h1 P else P (.bl false) h1
  | _ => False
def lOrV (ta tb : LT) : LT := fun env h P => ta env h fun v h1 => match v with
  | .bl c => if c = true then P (.bl true) h1 else tb env h1 P
  | _ => False
def lNotV (ta : LT) : LT := fun env h P => ta env h fun v h1 => match v with
  | .bl c => P (.bl (!c)) h1
  | _ => False
section
variable {K : PySem.W.Frag} {m : Nat → Addr} {H : Hp} {h : EH}
theorem RelEs.isEmpty {n : Nat} {es : List EV} {vs : List V} (r : RelEs K m n H es vs) : vs.isEmpty = es.isEmpty := by
  cases es with
  | nil => rw [RelEs] at r; subst r; rfl
  | cons a l => rw [RelEs] at r; obtain ⟨v, t, rfl, _, _⟩ := r; rfl
theorem RelKV.isEmpty {n : Nat} {es : List (EV × EV)} {vs : List (L2.Key × V)} (r : RelKV K m n H es vs) : vs.isEmpty = es.isEmpty := by
  cases es with
  | nil => rw [RelKV] at r; subst r; rfl
  | cons a l => rw [RelKV] at r; obtain ⟨v, t, u, rfl, _, _⟩ := r; rfl
theorem tru_sim {v : EV} {x : V} {P : Bool → Prop} (R : RelH K m h H) (r : RelE K m h.length H v x) (q : truE v h P) : ∃ k, TruV K x H k ∧ P k := by
  unfold truE at q
  split at q
  · rw [RelE] at r; subst r; exact ⟨_, rfl, q⟩
  · rw [RelE] at r; subst r; exact ⟨_, rfl, q⟩
  · rw [RelE] at r; subst r; exact ⟨_, rfl, q⟩
  · rename_i s
    rw [RelE] at r; subst r
    refine ⟨_, ⟨by rw [S_len]; exact q.1, rfl⟩, ?_⟩
    rw [S_len]
    have e : (((s.length : Nat) : Int) != 0) = !s.isEmpty := by
      cases s <;> simp
      omega
    rw [e]; exact q.2
  · rw [RelE] at r
    obtain ⟨a, vs, rfl, hs, r⟩ := r
    exact ⟨_, .inr (.inl ⟨vs, SqT.of hs, rfl⟩), by rw [r.isEmpty]; exact q⟩
  · rw [RelE] at r
    obtain ⟨_, rfl⟩ := r
    split at q
    · rename_i e
      obtain ⟨vs, a, r⟩ := R.obj _ _ e
      exact ⟨_, .inl ⟨vs, SqL.of a, rfl⟩, by rw [r.isEmpty]; exact q⟩
    · rename_i e
      obtain ⟨vs, a, r⟩ := R.obj _ _ e
      exact ⟨_, .inr (.inr ⟨vs, a, rfl⟩), by rw [r.isEmpty]; exact q⟩
    · exact q.elim
  · exact q.elim
end
section
variable {X : Cx} {a b c e : Expr} {es : List Expr} {ta tb : LT} {t u : LTt} {pos : Pos} {rest : List Expr}
theorem lt_truth (ha : LE X a ta) (he : ∀ whole, isTrue a X.env whole = (do let v ← whole; standAt a.pos; holding [v] (truthy v)) := by intro _; rfl) : LTe X a (lT ta) := by
  refine ⟨PT.imp (pt_truth ha.pe he) fun σ H Q ⟨m, env, h, P, at_, t1, k⟩ => ⟨m, env, h, _, at_, t1, fun v h1 p1 m1 H1 x E1 R1 r1 => ?_⟩⟩
  obtain ⟨c, tc, pc⟩ := tru_sim R1 r1 p1
  exact ⟨c, tc, k c h1 pc m1 H1 E1 R1⟩
theorem LWe.lt (w : LWe X e t) : LTe X e t := ⟨w.pw.pt⟩
theorem lw_and1 (ha : LTe X a t) : LWe X (.BoolOp .And [a] pos) t := ⟨pw_and1 ha.pt⟩
theorem lw_or1 (ha : LTe X a t) : LWe X (.BoolOp .Or [a] pos) t := ⟨pw_or1 ha.pt⟩
theorem lw_and (ha : LTe X a t) (hb : LWe X (.BoolOp .And (b :: rest) pos) u) : LWe X (.BoolOp .And (a :: b :: rest) pos) (lAnd t u) := by
  refine ⟨PW.imp (pw_and ha.pt hb.pw) fun σ H Q ⟨m, env, h, P, at_, t1, k⟩ => ⟨m, env, h, _, at_, t1, fun c h1 p1 m1 H1 E1 R1 => ?_⟩⟩
  cases c with
  | true =>
    rw [if_pos rfl] at p1 ⊢
    exact ⟨m1, env, h1, P, at_.ex E1 R1, p1, fun c2 h2 p2 m2 H2 E2 R2 => k c2 h2 p2 m2 H2 (E1.trans E2) R2⟩
  | false =>
    rw [if_neg Bool.false_ne_true] at p1 ⊢
    exact k _ _ p1 m1 H1 E1 R1
theorem lw_or (ha : LTe X a t) (hb : LWe X (.BoolOp .Or (b :: rest) pos) u) : LWe X (.BoolOp .Or (a :: b :: rest) pos) (lOr t u) := by
  refine ⟨PW.imp (pw_or ha.pt hb.pw) fun σ H Q ⟨m, env, h, P, at_, t1, k⟩ => ⟨m, env, h, _, at_, t1, fun c h1 p1 m1 H1 E1 R1 => ?_⟩⟩
  cases c with
  | false =>
    rw [if_neg Bool.false_ne_true] at p1 ⊢
    exact ⟨m1, env, h1, P, at_.ex E1 R1, p1, fun c2 h2 p2 m2 H2 E2 R2 => k c2 h2 p2 m2 H2 (E1.trans E2) R2⟩
  | true =>
    rw [if_pos rfl] at p1 ⊢
    exact k _ _ p1 m1 H1 E1 R1
theorem lt_not (ha : LTe X a t) : LTe X (.UnaryOp .Not a pos) (lNot t) :=
  ⟨PT.imp (pt_not ha.pt) fun σ H Q ⟨m, env, h, P, at_, t1, k⟩ => ⟨m, env, h, _, at_, t1, fun c h1 p1 m1 H1 E1 R1 => k _ _ p1 m1 H1 E1 R1⟩⟩
theorem le_if (hc : LTe X c t) (ha : LE X a ta) (hb : LE X b tb) : LE X (.IfExp c a b pos) (lIf t ta tb) := by
  refine ⟨PE.imp (pe_ifExp hc.pt ha.pe hb.pe) fun σ H Q ⟨m, env, h, P, at_, t1, k⟩ => ⟨m, env, h, _, at_, t1, fun c h1 p1 m1 H1 E1 R1 => ?_⟩⟩
  cases c with
  | true =>
    rw [if_pos rfl] at p1 ⊢
    exact ⟨m1, env, h1, P, at_.ex E1 R1, p1, k.ex E1⟩
  | false =>
    rw [if_neg Bool.false_ne_true] at p1 ⊢
    exact ⟨m1, env, h1, P, at_.ex E1 R1, p1, k.ex E1⟩
theorem le_one {op} (ha : LE X a ta) : LE X (.BoolOp op [a] pos) ta := ⟨pe_one ha.pe⟩
theorem le_and (ha : LE X a ta) (hb : LE X (.BoolOp .And (b :: rest) pos) tb) : LE X (.BoolOp .And (a :: b :: rest) pos) (lAndV ta tb) := by
  refine ⟨PE.imp (pe_and ha.pe hb.pe) fun σ H Q ⟨m, env, h, P, at_, t1, k⟩ => ⟨m, env, h, _, at_, t1, fun v h1 p1 m1 H1 x E1 R1 r1 => ?_⟩⟩
  cases v with
  | bl c =>
    rw [RelE] at r1
    refine ⟨c, r1, ?_⟩
    cases c with
    | true =>
      exact ⟨m1, env, h1, P, at_.ex E1 R1, p1, k.ex E1⟩
    | false => exact k _ _ p1 m1 H1 _ E1 R1 (by rw [RelE])
  | _ => exact p1.elim
end
def lNil : LA := fun _ h P => P [] h
def lCons (ta : LT) (tr : LA) : LA := fun env h P => ta env h fun x h1 => tr env h1 fun xs h2 => P (x :: xs) h2
def lTup (t : LA) : LT := fun env h P => t env h fun xs h1 => xs.length ≤ sizeLine ∧ P (.tup xs) h1
def lLst (t : LA) : LT := fun env h P => t env h fun xs h1 => xs.length ≤ sizeLine ∧ P (.ref h1.length) (h1 ++ [.lst xs])
section
variable {X : Cx} {a b c e : Expr} {es : List Expr} {ta tb : LT} {t : LA} {pos : Pos}
theorem la_nil : LAs X [] lNil := ⟨PA.imp pa_nil fun σ H Q ⟨m, env, h, P, at_, t1, k⟩ => k _ _ t1 m H [] .refl at_.hp .nil⟩
theorem la_cons (ha : LE X e ta) (hr : LAs X es t) (hs : starEach (e :: es) X.env = (false, eval e X.env) :: starEach es X.env := by rfl) : LAs X (e :: es) (lCons ta t) :=
  ⟨PA.imp (pa_cons ha.pe hr.pa hs) fun σ H Q ⟨m, env, h, P, at_, t1, k⟩ => ⟨m, env, h, _, at_, t1, fun x h1 p1 m1 H1 v E1 R1 r1 =>
    ⟨m1, env, h1, _, at_.ex E1 R1, p1, fun xs h2 p2 m2 H2 vs E2 R2 r2 => k _ _ p2 m2 H2 _ (E1.trans E2) R2 (.cons (RelE.ex E2 _ _ r1) r2)⟩⟩⟩
theorem le_tup {k1} (ht : LAs X es t) : LE X (.Tuple es k1 pos) (lTup t) :=
  ⟨PE.imp (pe_tup ht.pa) fun σ H Q ⟨m, env, h, P, at_, t1, k⟩ => ⟨m, env, h, _, at_, t1, fun xs h1 p1 m1 H1 vs E1 R1 r1 =>
    ⟨by rw [← r1.length]; exact p1.1, fun p hp => (k.ex E1).tup R1 p1.2 r1 hp⟩⟩⟩
theorem le_lst (ht : LAs X es t) : LE X (.List es pos) (lLst t) :=
  ⟨PE.imp (pe_lst ht.pa) fun σ H Q ⟨m, env, h, P, at_, t1, k⟩ => ⟨m, env, h, _, at_, t1, fun xs h1 p1 m1 H1 vs E1 R1 r1 =>
    ⟨by rw [← r1.length]; exact p1.1, fun p hp => (k.ex E1).lst R1 p1.2 r1 hp⟩⟩⟩
end
abbrev LC := List EV → EH → EK → Prop
def LCl (K : PySem.W.Frag) (r : List V → Hp → VK → Prop) (c : LC) : Prop :=
  ∀ (m : Nat → Addr) (h : EH) (H : Hp) (vs : List EV) (xs : List V) (P : EK) (Q : VK), RelH K m h H → RelEs K m h.length H vs xs → c vs h P → Kon K m h.length H P Q → r xs H Q
def LCallR (X : Cx) (f : Value) (c : LC) : Prop := ∃ r, CallR X f r ∧ LCl X.K r c
def lCB (c : LC) (t : LA) : LT := fun env h P => t env h fun vs h1 => c vs h1 P
theorem CallR.or {X : Cx} {f : Value} {r r' : List V → Hp → VK → Prop} (a : CallR X f r) (b : CallR X f r') : CallR X f (fun xs H Q => r xs H Q ∨ r' xs H Q) := by
  intro pins s σ H xs us Q I rv q
  rcases q with q | q
  · exact a pins s σ H xs us Q I rv q
  · exact b pins s σ H xs us Q I rv q
theorem RelEs.one_inv {K : PySem.W.Frag} {m : Nat → Addr} {n : Nat} {H : Hp} {x : EV} {vs : List V} (r : RelEs K m n H [x] vs) : ∃ v, vs = [v] ∧ RelE K m n H x v := by
  rw [RelEs] at r
  obtain ⟨v, l, rfl, a, b⟩ := r
  rw [RelEs] at b
  subst b
  exact ⟨v, rfl, a⟩
theorem RelEs.two_inv {K : PySem.W.Frag} {m : Nat → Addr} {n : Nat} {H : Hp} {x y : EV} {vs : List V} (r : RelEs K m n H [x, y] vs) : ∃ v w, vs = [v, w] ∧ RelE K m n H x v ∧ RelE K m n H y w := by
  rw [RelEs] at r
  obtain ⟨v, l, rfl, a, b⟩ := r
  obtain ⟨w, rfl, c⟩ := b.one_inv
  exact ⟨v, w, rfl, a, c⟩
section
variable {X : Cx} {e : Expr} {es : List Expr} {c : LC} {t : LA} {pos p : Pos} {x : Str} {id T : String}
theorem up_cb {K : PySem.W.Frag} {r : List V → Hp → VK → Prop} (s : LCl K r c) (σ : L2.St) (H : Hp) (Q : VK) (q : up K (lCB c t) σ H Q) : tCB r (upA K t) σ H Q := by
  obtain ⟨m, env, h, P, at_, t1, k⟩ := q
  exact ⟨m, env, h, _, at_, t1, fun vs h1 p1 m1 H1 xs E1 R1 r1 => s _ _ _ _ _ _ _ R1 r1 p1 (k.ex E1)⟩
theorem le_callB (hc : LCallR X (.builtin id) c) (hg : Gl X x) (hm : X.mg x = none) (hv : bootBuiltins x = some (.builtin id)) (ha : LAs X (e :: es) t) (hn : x ≠ "__name__" := by decide) (hdb : (x == ("__debug__" : Str)) = false := by decide)
    (he : starEach (e :: es) X.env = (false, eval e X.env) :: starEach es X.env := by rfl) (hpl : (backTo pos (starEach es X.env)).any (·.1) = false := by rfl) : LE X (.Call (.Name x p) (e :: es) [] pos) (lCB c t) := by
  obtain ⟨r, hr, s⟩ := hc
  exact ⟨PE.imp (pe_callB hr hg hm hv ha.pa hn hdb he hpl) (up_cb s)⟩
theorem le_callTy (hc : LCallR X (.type T) c) (hg : Gl X x) (hm : X.mg x = none) (hv : bootBuiltins x = some (.type T)) (ha : LAs X (e :: es) t) (hn : x ≠ "__name__" := by decide) (hdb : (x == ("__debug__" : Str)) = false := by decide)
    (he : starEach (e :: es) X.env = (false, eval e X.env) :: starEach es X.env := by rfl) (hpl : (backTo pos (starEach es X.env)).any (·.1) = false := by rfl) : LE X (.Call (.Name x p) (e :: es) [] pos) (lCB c t) := by
  obtain ⟨r, hr, s⟩ := hc
  exact ⟨PE.imp (pe_callTy hr hg hm hv ha.pa hn hdb he hpl) (up_cb s)⟩
end
abbrev LM := EV → List EV → EH → EK → Prop
def LMl (K : PySem.W.Frag) (T : String) (r : V → List V → Hp → VK → Prop) (c : LM) : Prop :=
  ∀ (m : Nat → Addr) (h : EH) (H : Hp) (v : EV) (x : V) (vs : List EV) (xs : List V) (P : EK) (Q : VK), RelH K m h H → RelE K m h.length H v x → RelEs K m h.length H vs xs → c v vs h P → Kon K m h.length H P Q → r x xs H Q
def isTy (T : String) (v : EV) (h : EH) : Prop := match v with
  | .str _ => T = "str"
  | .ref r => match h[r]? with
    | some (.lst _) => T = "list"
    | some (.dic _) => T = "dict"
    | _ => False
  | _ => False
def lBM (T : String) (c : LM) (to : LT) (t : LA) : LT := fun env h P => to env h fun x h1 => isTy T x h1 ∧ t env h1 fun vs h2 => c x vs h2 P
theorem isTy_sim {K : PySem.W.Frag} {m : Nat → Addr} {H : Hp} {h : EH} {T : String} {v : EV} {x : V} (R : RelH K m h H) (r : RelE K m h.length H v x) (q : isTy T v h) : tyV K T x H := by
  unfold isTy at q
  split at q
  · rw [RelE] at r; subst r; exact q
  · rw [RelE] at r
    obtain ⟨_, rfl⟩ := r
    split at q
    · rename_i e
      obtain ⟨vs, a, _⟩ := R.obj _ _ e
      exact .inl ⟨q, vs, SqL.of a⟩
    · rename_i e
      obtain ⟨vs, a, _⟩ := R.obj _ _ e
      exact .inr (.inr (.inl ⟨q, .inl ⟨vs, a⟩⟩))
    · exact q.elim
  · exact q.elim
section
variable {X : Cx} {o e : Expr} {es : List Expr} {to : LT} {t : LA} {name : Str} {apos cpos : Pos} {T id : String} {r : V → List V → Hp → VK → Prop} {c : LM}
theorem le_bm (pa : PlainAttrs T) (slot : Slot T name id) (hty : typeOf (.builtin id) = pure (.type "method_descriptor")) (hm : MtR X id r) (s : LMl X.K T r c) (ho : LE X o to) (ha : LAs X (e :: es) t)
    (hbase : attributeBase o name X.env (eval o X.env) = eval o X.env := by rfl)
    (hfew : ((backTo cpos (starEach (e :: es) X.env)).all (fun x => !x.1) && (backToKw cpos (keywordEach [] X.env)).all (fun x => x.1.isSome)
      && decide ((e :: es).length + ([] : List Keyword).length + (if ([] : List Keyword).isEmpty then 0 else 1) < 30)) = true := by rfl)
    (hline : (apos.endLine == cpos.line) = true := by rfl) (hs : starEach (e :: es) X.env = (false, eval e X.env) :: starEach es X.env := by rfl) (hplain : (backTo cpos (starEach es X.env)).any (·.1) = false := by rfl) :
    LE X (.Call (.Attribute o name apos) (e :: es) [] cpos) (lBM T c to t) :=
  ⟨PE.imp (pe_bm pa slot hty hm ho.pe ha.pa hbase hfew hline hs hplain) fun σ H Q ⟨m, env, h, P, at_, t1, k⟩ => ⟨m, env, h, _, at_, t1, fun x h1 p1 m1 H1 v E1 R1 r1 =>
    ⟨isTy_sim R1 r1 p1.1, m1, env, h1, _, at_.ex E1 R1, p1.2, fun vs h2 p2 m2 H2 xs E2 R2 r2 => s _ _ _ _ _ _ _ _ _ R2 (RelE.ex E2 _ _ r1) r2 p2 (k.ex (E1.trans E2))⟩⟩⟩
theorem le_bm0 (pa : PlainAttrs T) (slot : Slot T name id) (hty : typeOf (.builtin id) = pure (.type "method_descriptor")) (hm : MtR X id r) (s : LMl X.K T r c) (ho : LE X o to)
    (hbase : attributeBase o name X.env (eval o X.env) = eval o X.env := by rfl) (hline : (apos.endLine == cpos.line) = true := by rfl) : LE X (.Call (.Attribute o name apos) [] [] cpos) (lBM T c to lNil) :=
  ⟨PE.imp (pe_bm0 pa slot hty hm ho.pe hbase hline) fun σ H Q ⟨m, env, h, P, at_, t1, k⟩ => ⟨m, env, h, _, at_, t1, fun x h1 p1 m1 H1 v E1 R1 r1 =>
    ⟨isTy_sim R1 r1 p1.1, s _ _ _ _ _ _ _ _ _ R1 r1 .nil p1.2 (k.ex E1)⟩⟩⟩
end
def LIxR (X : Cx) (o : LO) : Prop := ∃ r, IxR X r ∧ LOp X.K r o
theorem le_ix {X : Cx} {a b : Expr} {ta tb : LT} {o : LO} {pos : Pos} (hr : LIxR X o) (ha : LE X a ta) (hb : LE X b tb) (hs : PlainIx b := by exact fun _ _ => rfl) : LE X (.Subscript a b pos) (lOp o ta tb) := by
  obtain ⟨r, h, s⟩ := hr
  exact ⟨PE.imp (pe_ix h ha.pe hb.pe hs) (up_bin s)⟩
def ixE : LO := fun v w h P => match w with
  | .int i => match v with
    | .tup xs => match atI xs i with
      | some x => P x h
      | none => False
    | .ktup xs => match atI xs i with
      | some x => P x h
      | none => False
    | .str s => s.length ≤ sizeLine ∧ match atI s i with
      | some x => P (.str [x]) h
      | none => False
    | .ref r => match h[r]? with
      | some (.lst xs) => match atI xs i with
        | some x => P x h
        | none => False
      | some (.frz xs) => match atI xs i with
        | some x => P x h
        | none => False
      | _ => False
    | _ => False
  | _ => False
theorem RelEs.atI {K : PySem.W.Frag} {m : Nat → Addr} {n : Nat} {H : Hp} {es : List EV} {vs : List V} {i : Int} {x : EV} (r : RelEs K m n H es vs) (e : atI es i = some x) : ∃ v, L2.atI vs i = some v ∧ RelE K m n H x v := by
  unfold L2.atI at e ⊢
  rw [← r.length]
  cases q : ixN es.length i with
  | none => rw [q] at e; cases e
  | some j =>
    rw [q] at e
    exact r.at e
theorem lix {X : Cx} : LIxR X ixE := by
  refine ⟨_, ix_seq, ?_⟩
  intro m h H v w x y P Q R rx ry q k
  unfold ixE at q
  split at q
  · rw [RelE] at ry
    subst ry
    split at q
    · rw [RelE] at rx
      obtain ⟨a, vs, rfl, hs, r⟩ := rx
      split at q
      · rename_i e
        obtain ⟨u, a1, r1⟩ := r.atI e
        exact .inr (.inl ⟨_, _, _, u, rfl, rfl, SqT.of hs, a1, k.same R q r1⟩)
      · exact q.elim
    · rw [RelE] at rx
      obtain ⟨a, vs, rfl, hs, r⟩ := rx
      split at q
      · rename_i e
        obtain ⟨u, a1, r1⟩ := r.atI e
        exact .inr (.inl ⟨_, _, _, u, rfl, rfl, hs, a1, k.same R q r1⟩)
      · exact q.elim
    · rw [RelE] at rx
      subst rx
      obtain ⟨q1, q⟩ := q
      split at q
      · rename_i e
        exact .inr (.inr ⟨_, _, _, rfl, rfl, by rw [S_len]; exact q1, by simpa using e, k.same R q (by rw [RelE])⟩)
      · exact q.elim
    · rw [RelE] at rx
      obtain ⟨_, rfl⟩ := rx
      split at q
      · rename_i e
        obtain ⟨vs, a, r⟩ := R.obj _ _ e
        split at q
        · rename_i e
          obtain ⟨u, a1, r1⟩ := r.atI e
          exact .inl ⟨_, _, _, u, rfl, rfl, SqL.of a, a1, k.same R q r1⟩
        · exact q.elim
      · rename_i e
        obtain ⟨vs, a, r⟩ := R.obj _ _ e
        split at q
        · rename_i e
          obtain ⟨u, a1, r1⟩ := r.atI e
          exact .inl ⟨_, _, _, u, rfl, rfl, a.sql, a1, k.same R q r1⟩
        · exact q.elim
      · exact q.elim
    · exact q.elim
  · exact q.elim
abbrev LO_ := En → EH → (Option Int → EH → Prop) → Prop
def lPart : Option LT → LO_
  | none => fun _ h P => P none h
  | some t => fun env h P => t env h fun v h1 => match v with
    | .int i => P (some i) h1
    | _ => False
def upO (K : PySem.W.Frag) (t : LO_) : L2.St → Hp → (Option Int → Hp → Prop) → Prop := fun σ H Q => ∃ m env h P, At K env h m σ H ∧ t env h P ∧
  ∀ b h', P b h' → ∀ (m' : Nat → Addr) (H' : Hp), Ex K m h.length H m' h'.length H' → RelH K m' h' H' → Q b H'
def LPo (X : Cx) (e : Option Expr) (t : LO_) : Prop := ∃ u, PO X e u ∧ ∀ σ H Q, upO X.K t σ H Q → u σ H Q
theorem lpo_none {X : Cx} : LPo X none (lPart none) := ⟨_, po_none, fun σ H Q ⟨m, env, h, P, at_, t1, k⟩ => k _ _ t1 m H .refl at_.hp⟩
theorem lpo_some {X : Cx} {e : Expr} {t : LT} (he : LE X e t) : LPo X (some e) (lPart (some t)) := by
  refine ⟨_, po_some he.pe, fun σ H Q ⟨m, env, h, P, at_, t1, k⟩ => ⟨m, env, h, _, at_, t1, fun v h1 p1 m1 H1 x E1 R1 r1 => ?_⟩⟩
  cases v with
  | int i =>
    rw [RelE] at r1
    exact ⟨i, r1, k _ _ p1 m1 H1 E1 R1⟩
  | _ => exact p1.elim
def cut {α : Type} (xs : List α) (lo hi : Option Int) : List α := (xs.drop (HT.sIx xs.length 0 lo)).take (HT.sIx xs.length xs.length hi - HT.sIx xs.length 0 lo)
abbrev LSlc := EV → Option Int → Option Int → EH → EK → Prop
def slE : LSlc := fun v lo hi h P => match v with
  | .tup xs => P (.tup (cut xs lo hi)) h
  | .str s => s.length ≤ sizeLine ∧ P (.str (cut s lo hi)) h
  | .ref r => match h[r]? with
    | some (.lst xs) => P (.ref h.length) (h ++ [.lst (cut xs lo hi)])
    | some (.frz xs) => P (.ref h.length) (h ++ [.lst (cut xs lo hi)])
    | _ => False
  | _ => False
def lSl (to : LT) (tl th : LO_) : LT := fun env h P => to env h fun x h1 => tl env h1 fun l h2 => th env h2 fun u h3 => slE x l u h3 P
theorem RelEs.cut {K : PySem.W.Frag} {m : Nat → Addr} {n : Nat} {H : Hp} {es : List EV} {vs : List V} {lo hi : Option Int} (r : RelEs K m n H es vs) : RelEs K m n H (cut es lo hi) (cutV vs lo hi) := by
  unfold Y.cut cutV
  rw [← r.length]
  exact RelEs.take _ (RelEs.drop _ r)
theorem cut_S (s : List Nat) (lo hi : Option Int) : cutS (S s) lo hi = S (cut s lo hi) := by
  unfold cutS Y.cut
  rw [S_len]
theorem cut_all {α : Type} {xs : List α} {lo hi : Option Int} (h : HT.sIx xs.length 0 lo = 0 ∧ HT.sIx xs.length xs.length hi = xs.length) : cut xs lo hi = xs := by
  unfold cut
  rw [h.1, h.2]
  simp
theorem le_slice {X : Cx} {e : Expr} {lo hi : Option Expr} {to : LT} {tl th : LO_} {p2 pos : Pos} (he : LE X e to) (hl : LPo X lo tl) (hu : LPo X hi th) : LE X (.Subscript e (.Slice lo hi none p2) pos) (lSl to tl th) := by
  obtain ⟨u1, h1, s1⟩ := hl
  obtain ⟨u2, h2, s2⟩ := hu
  refine ⟨PE.imp (pe_slice (SlR.or sl_list (SlR.or sl_tupA sl_str)) he.pe h1 h2) fun σ H Q ⟨m, env, h, P, at_, t1, k⟩ => ⟨m, env, h, _, at_, t1, fun v h1 p1 m1 H1 x E1 R1 r1 => s1 _ _ _ ⟨m1, env, h1, _, at_.ex E1 R1, p1, fun l h2 p2 m2 H2 E2 R2 =>
    s2 _ _ _ ⟨m2, env, h2, _, (at_.ex E1 R1).ex E2 R2, p2, fun u h3 p3 m3 H3 E3 R3 => ?_⟩⟩⟩⟩
  have r3 := RelE.ex (E2.trans E3) _ _ r1
  have k3 := k.ex ((E1.trans E2).trans E3)
  unfold slE at p3
  split at p3
  · rename_i xs
    rw [RelE] at r3
    obtain ⟨a, vs, rfl, hs, r⟩ := r3
    refine .inr (.inl ⟨a, vs, rfl, SqT.of hs, fun w => ?_, fun _ p hp => k3.tup R3 p3 r.cut hp⟩)
    rw [← r.length] at w
    rw [cut_all w] at p3
    exact k3.same R3 p3 (by rw [RelE]; exact ⟨a, vs, rfl, hs, r⟩)
  · rw [RelE] at r3
    subst r3
    exact .inr (.inr ⟨_, rfl, by rw [S_len]; exact p3.1, by rw [cut_S]; exact k3.same R3 p3.2 (by rw [RelE])⟩)
  · rw [RelE] at r3
    obtain ⟨_, rfl⟩ := r3
    split at p3
    · rename_i e
      obtain ⟨vs, a, r⟩ := R3.obj _ _ e
      exact .inl ⟨_, _, rfl, SqL.of a, fun p hp => k3.lst R3 p3 r.cut hp⟩
    · rename_i e
      obtain ⟨vs, a, r⟩ := R3.obj _ _ e
      exact .inl ⟨_, _, rfl, a.sql, fun p hp => k3.lst R3 p3 r.cut hp⟩
    · exact p3.elim
  · exact p3.elim
end Y

namespace Y
open PySem PySem.Spec PyProof.Rows L2

def lNext : LS := fun D env h => D.nx env h
def lSeq (t u : LS) : LS := fun D env h => t { D with nx := u D } env h
def lDrop (t : LT) : LS := fun D env h => t env h fun _ h1 => D.nx env h1
def lRet (t : LT) : LS := fun D env h => t env h D.rt
def lRetN : LS := fun D _ h => D.rt .non h
def lIfS (c : LTt) (t u : LS) : LS := fun D env h => c env h fun b h1 => if b = true then t D env h1 else u D env h1
section
variable {X : Cx} {st : Stmt} {rest a b : List Stmt} {t u : LS} {e c : Expr} {te : LT} {tc : LTt} {pos : Pos}
theorem lss_nil : LSs X [] lNext := ⟨PSs.imp pss_nil fun D σ H ⟨m, env, h, P, at_, t1, k⟩ => k.nx _ _ t1 m H σ .refl at_⟩
theorem lss_cons (h1 : LSt X st t) (h2 : LSs X rest u) : LSs X (st :: rest) (lSeq t u) := by
  refine ⟨PSs.imp (pss_cons h1.ps h2.pss) fun D σ H ⟨m, env, h, P, at_, t1, k⟩ => ⟨m, env, h, { P with nx := u P }, at_, t1, ⟨?_, k.rt, k.bk, k.ct⟩⟩⟩
  intro env' h' p m' H' σ' E a
  exact ⟨m', env', h', P, a, p, k.ex E⟩
theorem lss_one (h1 : LSt X st t) : LSs X [st] t := ⟨pss_one h1.ps⟩
theorem ls_expr (he : LE X e te) (hs : swapsWith e none pos.line X.env = pure false := by rfl) : LSt X (.Expr e pos) (lDrop te) :=
  ⟨PS.imp (ps_expr he.pe hs) fun D σ H ⟨m, env, h, P, at_, t1, k⟩ => ⟨m, env, h, _, at_, t1, fun v h1 p1 m1 H1 x E1 R1 r1 => k.nx _ _ p1 m1 H1 σ E1 (at_.ex E1 R1)⟩⟩
theorem ls_ret (he : LE X e te) : LSt X (.Return (some e) pos) (lRet te) :=
  ⟨PS.imp (ps_ret he.pe) fun D σ H ⟨m, env, h, P, at_, t1, k⟩ => ⟨m, env, h, _, at_, t1, k.rt⟩⟩
theorem ls_if (hc : LTe X c tc) (ha : LSs X a t) (hb : LSs X b u) : LSt X (.If c a b pos) (lIfS tc t u) := by
  refine ⟨PS.imp (ps_if hc.pt ha.pss hb.pss) fun D σ H ⟨m, env, h, P, at_, t1, k⟩ => ⟨m, env, h, _, at_, t1, fun c h1 p1 m1 H1 E1 R1 => ?_⟩⟩
  cases c with
  | true =>
    rw [if_pos rfl] at p1 ⊢
    exact ⟨m1, env, h1, P, at_.ex E1 R1, p1, k.ex E1⟩
  | false =>
    rw [if_neg Bool.false_ne_true] at p1 ⊢
    exact ⟨m1, env, h1, P, at_.ex E1 R1, p1, k.ex E1⟩
end
inductive Pat where
  | nm (i : Nat)
  | tp (ps : List Pat)
mutual
def Pat.bind (h : EH) : Pat → EV → En → Option En
  | .nm i, v, env => some (env.set i (some v))
  | .tp ps, .tup vs, env => Pat.binds h ps vs env
  | .tp ps, .ref r, env => match h[r]? with
    | some (.lst vs) => Pat.binds h ps vs env
    | _ => none
  | .tp _, _, _ => none
def Pat.binds (h : EH) : List Pat → List EV → En → Option En
  | [], [], env => some env
  | p :: ps, v :: vs, env => match Pat.bind h p v env with
    | some e => Pat.binds h ps vs e
    | none => none
  | _, _, _ => none
end
def gSq (K : PySem.W.Frag) (n : Nat) (t : TGs) : TG := fun v σ H Q => gTup K n t v σ H Q ∨ gLst K n t v σ H Q
theorem pg_sq {X : Cx} {es : List Expr} {k : Nat} {t : TGs} {n : Nat} {pos : Pos} (hc : X.calm = true) (h : PGs X es t)
    (hn : (assignEach es X.env).length = n := by rfl) (hst : (assignEach es X.env).findIdx? (·.1) = none := by rfl) : PG X (.Tuple es k pos) (gSq X.K n t) :=
  ⟨fun pins s σ H v u Q I r hw => hw.elim (fun w => (pg_tup (k := k) (pos := pos) hc h hn hst).run pins s σ H v u Q I r w) fun w => (pg_lst (k := k) (pos := pos) hc h hn hst).run pins s σ H v u Q I r w⟩
mutual
def gP (K : PySem.W.Frag) : Pat → TG
  | .nm i => gName i
  | .tp ps => gSq K ps.length (gPs K ps)
def gPs (K : PySem.W.Frag) : List Pat → TGs
  | [] => gNil
  | p :: ps => gCons (gP K p) (gPs K ps)
end
mutual
def Pat.slots : Pat → List Nat
  | .nm i => [i]
  | .tp ps => Pat.slotsAll ps
def Pat.slotsAll : List Pat → List Nat
  | [] => []
  | p :: ps => Pat.slots p ++ Pat.slotsAll ps
end
section
variable {K : PySem.W.Frag} {m : Nat → Addr} {n : Nat} {H : Hp} {h : EH}
theorem RelN.set {env : En} {σ : L2.St} {v : EV} {x : V} (R : RelN K m n H env σ) (r : RelE K m n H v x) (i : Nat) : RelN K m n H (env.set i (some v)) (σ.set i (some x)) := by
  refine ⟨by simpa using R.1, fun j w hj => ?_⟩
  by_cases e : i = j
  · subst e
    have hl : i < env.length := by
      have := (List.getElem?_eq_some_iff.mp hj).1
      simpa using this
    rw [List.getElem?_set_self hl] at hj
    cases hj
    exact ⟨x, List.getElem?_set_self (by rw [← R.1]; exact hl), r⟩
  · rw [List.getElem?_set_ne e] at hj
    obtain ⟨y, a, b⟩ := R.2 j w hj
    exact ⟨y, by rw [List.getElem?_set_ne e]; exact a, b⟩
mutual
theorem Pat.sim (RH : RelH K m h H) : ∀ (p : Pat) (v : EV) (x : V) (env env' : En) (σ : L2.St), RelN K m h.length H env σ → RelE K m h.length H v x → Pat.bind h p v env = some env' →
    ∃ σ', (∀ Q, Q σ' H → gP K p x σ H Q) ∧ RelN K m h.length H env' σ' ∧ (∀ i, i ∉ Pat.slots p → σ'[i]? = σ[i]?) ∧ σ'.length = σ.length
  | .nm i, v, x, env, env', σ, R, r, e => by
    rw [Pat.bind] at e
    cases e
    refine ⟨σ.set i (some x), fun Q q => by rw [gP]; exact q, R.set r i, fun j hj => ?_, by simp⟩
    rw [Pat.slots] at hj
    exact List.getElem?_set_ne (fun z => hj (by simp [z]))
  | .tp ps, .tup vs, x, env, env', σ, R, r, e => by
    rw [Pat.bind] at e
    rw [RelE] at r
    obtain ⟨a, xs, rfl, hs, r⟩ := r
    obtain ⟨σ', f, R', s, l, z⟩ := Pat.sims RH ps vs xs env env' σ R r e
    refine ⟨σ', fun Q q => ?_, R', fun j hj => s j (by rw [Pat.slots] at hj; exact hj), z⟩
    rw [gP]
    exact .inl ⟨a, xs, rfl, SqT.of hs, l, f Q q⟩
  | .tp ps, .non, x, env, env', σ, R, r, e => by simp [Pat.bind] at e
  | .tp ps, .ktup _, x, env, env', σ, R, r, e => by simp [Pat.bind] at e
  | .tp ps, .bl _, x, env, env', σ, R, r, e => by simp [Pat.bind] at e
  | .tp ps, .int _, x, env, env', σ, R, r, e => by simp [Pat.bind] at e
  | .tp ps, .str _, x, env, env', σ, R, r, e => by simp [Pat.bind] at e
  | .tp ps, .ref q, x, env, env', σ, R, r, e => by
    rw [Pat.bind] at e
    rw [RelE] at r
    obtain ⟨_, rfl⟩ := r
    split at e
    · rename_i vs e1
      obtain ⟨xs, a, r2⟩ := RH.obj _ _ e1
      obtain ⟨σ', f, R', s, l, z⟩ := Pat.sims RH ps vs xs env env' σ R r2 e
      refine ⟨σ', fun Q q => ?_, R', fun j hj => s j (by rw [Pat.slots] at hj; exact hj), z⟩
      rw [gP]
      exact .inr ⟨_, xs, rfl, SqL.of a, l, f Q q⟩
    · cases e
  | .tp ps, .adr _, x, env, env', σ, R, r, e => by simp [Pat.bind] at e
  | .tp ps, .ty _, x, env, env', σ, R, r, e => by simp [Pat.bind] at e
theorem Pat.sims (RH : RelH K m h H) : ∀ (ps : List Pat) (vs : List EV) (xs : List V) (env env' : En) (σ : L2.St), RelN K m h.length H env σ → RelEs K m h.length H vs xs → Pat.binds h ps vs env = some env' →
    ∃ σ', (∀ Q, Q σ' H → gPs K ps xs σ H Q) ∧ RelN K m h.length H env' σ' ∧ (∀ i, i ∉ Pat.slotsAll ps → σ'[i]? = σ[i]?) ∧ xs.length = ps.length ∧ σ'.length = σ.length
  | [], [], xs, env, env', σ, R, r, e => by
    rw [Pat.binds] at e
    cases e
    rw [RelEs] at r
    subst r
    exact ⟨σ, fun Q q => by rw [gPs]; exact ⟨rfl, q⟩, R, fun _ _ => rfl, rfl, rfl⟩
  | [], _ :: _, xs, env, env', σ, R, r, e => by simp [Pat.binds] at e
  | _ :: _, [], xs, env, env', σ, R, r, e => by simp [Pat.binds] at e
  | p :: ps, v :: vs, xs, env, env', σ, R, r, e => by
    rw [Pat.binds] at e
    rw [RelEs] at r
    obtain ⟨x, l, rfl, r1, r2⟩ := r
    split at e
    · rename_i env1 e1
      obtain ⟨σ1, f1, R1, s1, z1⟩ := Pat.sim RH p v x env env1 σ R r1 e1
      obtain ⟨σ2, f2, R2, s2, l2, z2⟩ := Pat.sims RH ps vs l env1 env' σ1 R1 r2 e
      refine ⟨σ2, fun Q q => ?_, R2, fun j hj => ?_, by simp [l2], z2.trans z1⟩
      · rw [gPs]
        exact ⟨x, l, rfl, f1 _ (f2 Q q)⟩
      · rw [Pat.slotsAll] at hj
        rw [s2 j (fun z => hj (List.mem_append_right _ z)), s1 j (fun z => hj (List.mem_append_left _ z))]
    · cases e
end
end
structure LG (X : Cx) (tg : Expr) (p : Pat) : Prop where
  pg : PG X tg (gP X.K p)
structure LGs (X : Cx) (ts : List Expr) (ps : List Pat) : Prop where
  pgs : PGs X ts (gPs X.K ps)
section
variable {X : Cx} {pos : Pos}
theorem lg_name (i : Nat) {x : Str} (hN : X.N.Nodup) (hi : X.N[i]? = some x := by rfl) (hx : Loc X.env.scope x := by first | exact Or.inl rfl | exact Or.inr rfl) (hf : X.fn x = true ∨ X.env.scope.names.lookup x = some .local := by first | exact .inl rfl | exact .inr rfl) : LG X (.Name x pos) (.nm i) :=
  ⟨by rw [gP]; exact pg_name hN hi hx hf⟩
theorem lgs_nil : LGs X [] [] := ⟨by rw [gPs]; exact pgs_nil⟩
theorem lgs_cons {e : Expr} {es : List Expr} {p : Pat} {ps : List Pat} (h1 : LG X e p) (h2 : LGs X es ps) (hs : (assignEach (e :: es) X.env).map (·.2) = assign e X.env :: (assignEach es X.env).map (·.2) := by rfl) : LGs X (e :: es) (p :: ps) :=
  ⟨by rw [gPs]; exact pgs_cons h1.pg h2.pgs hs⟩
theorem lg_tup {es : List Expr} {k : Nat} {ps : List Pat} (hc : X.calm = true) (h : LGs X es ps) (hn : (assignEach es X.env).length = ps.length := by rfl) (hst : (assignEach es X.env).findIdx? (·.1) = none := by rfl) : LG X (.Tuple es k pos) (.tp ps) :=
  ⟨by rw [gP]; exact pg_sq hc h.pgs hn hst⟩
end
def lBind (h : EH) (p : Pat) (v : EV) (env : En) (P : En → Prop) : Prop := match Pat.bind h p v env with
  | some e => P e
  | none => False
theorem bind_sim {K : PySem.W.Frag} {m : Nat → Addr} {h : EH} {H : Hp} {p : Pat} {v : EV} {x : V} {env : En} {σ : L2.St} {P : En → Prop} (RH : RelH K m h H) (R : RelN K m h.length H env σ) (r : RelE K m h.length H v x) (q : lBind h p v env P) :
    ∃ env' σ', P env' ∧ (∀ Q, Q σ' H → gP K p x σ H Q) ∧ RelN K m h.length H env' σ' ∧ (∀ i, i ∉ Pat.slots p → σ'[i]? = σ[i]?) ∧ σ'.length = σ.length := by
  unfold lBind at q
  split at q
  · rename_i env' e
    obtain ⟨σ', f, R', s⟩ := Pat.sim RH p v x env env' σ R r e
    exact ⟨env', σ', q, f, R', s⟩
  · exact q.elim
def lAsg (te : LT) (p : Pat) : LS := fun D env h => te env h fun v h1 => lBind h1 p v env fun env' => D.nx env' h1
def lSet (te : LT) (i : Nat) : LS := fun D env h => te env h fun v h1 => D.nx (env.set i (some v)) h1
section
variable {X : Cx} {pos : Pos}
theorem ls_asg {tg e : Expr} {te : LT} {p : Pat} (he : LE X e te) (hg : LG X tg p) (hs : swapsWithSole [tg] e pos.line X.env = pure false := by rfl) (hw : swappedStores [tg] e X.env = pure none := by rfl)
    (h1 : (assignEach [tg] X.env).map (·.2) = [assign tg X.env] := by rfl) : LSt X (.Assign [tg] e pos) (lAsg te p) :=
  ⟨PS.imp (ps_asg he.pe hg.pg hs hw h1) fun D σ H ⟨m, env, h, P, at_, t1, k⟩ => ⟨m, env, h, _, at_, t1, fun v h1 p1 m1 H1 x E1 R1 r1 => by
    obtain ⟨env', σ', q, f, R', _, _⟩ := bind_sim R1 (at_.nm.ex E1) r1 p1
    exact f _ (k.nx _ _ q m1 H1 σ' E1 ⟨R1, R'⟩)⟩⟩
theorem ls_set (i : Nat) {x : Str} {e : Expr} {te : LT} {pos' : Pos} (hN : X.N.Nodup) (he : LE X e te) (hi : X.N[i]? = some x := by rfl) (hx : Loc X.env.scope x := by first | exact Or.inl rfl | exact Or.inr rfl) (hs : swapsWith e (some (.Name x pos')) pos.line X.env = pure false := by rfl)
    (hf : X.fn x = true ∨ X.env.scope.names.lookup x = some .local := by first | exact .inl rfl | exact .inr rfl) : LSt X (.Assign [.Name x pos'] e pos) (lSet te i) :=
  ⟨PS.imp (ps_set hN hi hx he.pe hs hf) fun D σ H ⟨m, env, h, P, at_, t1, k⟩ => ⟨m, env, h, _, at_, t1, fun v h1 p1 m1 H1 x E1 R1 r1 => k.nx _ _ p1 m1 H1 _ E1 ⟨R1, (at_.nm.ex E1).set r1 i⟩⟩⟩
def lPar (i j : Nat) (ta : LA) : LS := fun D env h => ta env h fun vs h1 => match vs with
  | [v, w] => D.nx ((env.set i (some v)).set j (some w)) h1
  | _ => False
theorem ls_par (i j : Nat) {x y : Str} {a b : Expr} {ta : LA} {px py pt : Pos} {kt k2 pt2} (hc : X.calm = true) (hN : X.N.Nodup) (ha : LAs X [a, b] ta) (hi : X.N[i]? = some x := by rfl) (hj : X.N[j]? = some y := by rfl) (hij : i ≠ j := by decide)
    (hx : X.env.scope.names.lookup x = some .local := by rfl) (hy : X.env.scope.names.lookup y = some .local := by rfl)
    (hw : swappedStores [.Tuple [.Name x px, .Name y py] kt pt] (.Tuple [a, b] k2 pt2) X.env = pure (some [x, y]) := by rfl)
    (hs : swapsWithSole [.Tuple [.Name x px, .Name y py] kt pt] (.Tuple [a, b] k2 pt2) pos.line X.env = pure false := by rfl) :
    LSt X (.Assign [.Tuple [.Name x px, .Name y py] kt pt] (.Tuple [a, b] k2 pt2) pos) (lPar i j ta) := by
  refine ⟨PS.imp (ps_par hc hN hi hj hij hx hy ha.pa hw hs) fun D σ H ⟨m, env, h, P, at_, t1, k⟩ => ⟨m, env, h, _, at_, t1, fun vs h1 p1 m1 H1 xs E1 R1 r1 => ?_⟩⟩
  split at p1
  · obtain ⟨v, w, rfl, a, b⟩ := r1.two_inv
    exact ⟨v, w, rfl, k.nx _ _ p1 m1 H1 _ E1 ⟨R1, ((at_.nm.ex E1).set a i).set b j⟩⟩
  · exact p1.elim
def setE (o i v : EV) (h : EH) (P : EH → Prop) : Prop := match o, i with
  | .ref r, .int k => match h[r]? with
    | some (.lst xs) => match ixN xs.length k with
      | some j => P (h.set r (.lst (xs.set j v)))
      | none => False
    | _ => False
  | _, _ => False
theorem set_sim {K : PySem.W.Frag} {m : Nat → Addr} {h : EH} {H : Hp} {o i v : EV} {x y z : V} {P : EH → Prop} {Q : Hp → Prop} (R : RelH K m h H) (rx : RelE K m h.length H o x) (ry : RelE K m h.length H i y) (rz : RelE K m h.length H v z) (q : setE o i v h P)
    (k : ∀ h', P h' → ∀ H', Ex K m h.length H m h'.length H' → RelH K m h' H' → Q H') : rSetL x y z H Q := by
  unfold setE at q
  split at q
  · rw [RelE] at rx
    rw [RelE] at ry
    obtain ⟨_, rfl⟩ := rx
    subst ry
    split at q
    · rename_i ls e
      obtain ⟨vs, a, r⟩ := R.obj _ _ e
      split at q
      · rename_i j ej
        refine ⟨_, vs, _, j, rfl, rfl, a, by rw [← r.length]; exact ej, ?_⟩
        have E := Ex.write (o := .lst (vs.set j z)) (e' := EO.lst (List.set ls j v)) R e
        exact k _ q _ E (R.write e ⟨_, upd_same, RelEs.set (RelE.ex E _ _ rz) j (RelEs.ex E _ _ r)⟩)
      · exact q.elim
    · exact q.elim
  · exact q.elim
def lSetI (to ti te : LT) : LS := fun D env h => te env h fun v h1 => to env h1 fun o h2 => ti env h2 fun i h3 => setE o i v h3 fun h4 => D.nx env h4
def getE (v w : EV) (h : EH) (P : EV → Prop) : Prop := match v, w with
  | .ref r, .int i => match h[r]? with
    | some (.lst xs) => 0 ≤ i ∧ match xs[i.toNat]? with
      | some x => P x
      | none => False
    | _ => False
  | _, _ => False
def lAugS (f : Int → Int → Int) (to ti te : LT) : LS := fun D env h => to env h fun o h1 => ti env h1 fun i h2 => getE o i h2 fun x => te env h2 fun y h4 => match x, y with
  | .int a, .int b => setE o i (.int (f a b)) h4 fun h5 => D.nx env h5
  | _, _ => False
def rGetN (K : PySem.W.Frag) : R2 := fun o i H Q => ∃ (p : Addr) (xs : List V) (k : Int) (x : V), o = .ref p ∧ i = .int k ∧ SqL K H p xs ∧ 0 ≤ k ∧ xs[k.toNat]? = some x ∧ Q x H
theorem pget_list : PGet X (rGetN X.K) := by
  intro pins s σ H o i ov iv Q I ro ri q
  obtain ⟨p, xs, k, x, rfl, rfl, hq, h0, hx, q⟩ := q
  cases ro
  obtain ⟨t, rfl⟩ := ri
  obtain ⟨its, rv, pl, hz⟩ := I.list hq
  obtain ⟨u, hu, ru⟩ := rv.get hx
  have hlt := (List.getElem?_eq_some_iff.mp hx).1
  have hs : sizeLine = 16777216 := by decide
  exact wpAny_getItem_list pl.isList h0 (by omega) (by simpa using hu) ⟨x, H, I, ru, q⟩
theorem ls_augS {o i e : Expr} {to ti te : LT} {op : Operator} {f : Int → Int → Int} {tpos : Pos} (hp : PIp X op (ipI f)) (ho : LE X o to) (hi : LE X i ti) (he : LE X e te)
    (ha : ∀ ov iv new, augStore i ov iv new = (do holding [new, ov, iv] (setItem ov iv new); release [new, ov, iv] []; pure .next) := by intros; rfl) : LSt X (.AugAssign (.Subscript o i tpos) op e pos) (lAugS f to ti te) := by
  refine ⟨PS.imp (ps_augS ho.pe hi.pe pget_list he.pe hp set_list ha) fun D σ H ⟨m, env, h, P, at_, t1, k⟩ => ⟨m, env, h, _, at_, t1, fun o h1 p1 m1 H1 x E1 R1 r1 => ⟨m1, env, h1, _, at_.ex E1 R1, p1, fun i h2 p2 m2 H2 y E2 R2 r2 => ?_⟩⟩⟩
  have ro2 := RelE.ex E2 _ _ r1
  unfold getE at p2
  split at p2
  · have ro := ro2
    have ri := r2
    rw [RelE] at ro
    rw [RelE] at ri
    obtain ⟨_, e1⟩ := ro
    split at p2
    · rename_i ls e
      obtain ⟨vs, a, r⟩ := R2.obj _ _ e
      obtain ⟨h0, p2⟩ := p2
      split at p2
      · rename_i w ew
        obtain ⟨u, hu, ru⟩ := r.at ew
        refine ⟨_, vs, _, u, e1, ri, SqL.of a, h0, hu, m2, env, h2, _, (at_.ex E1 R1).ex E2 R2, p2, fun v h3 p3 m3 H3 z E3 R3 r3 => ?_⟩
        have ru3 := RelE.ex E3 _ _ ru
        split at p3
        · rw [RelE] at ru3
          rw [RelE] at r3
          refine ⟨_, _, ru3, r3, ?_⟩
          exact set_sim R3 (RelE.ex E3 _ _ ro2) (RelE.ex E3 _ _ r2) (by rw [RelE]) p3 fun h4 p4 H4 E4 R4 => k.nx _ _ p4 m3 H4 σ (((E1.trans E2).trans E3).trans E4) ((((at_.ex E1 R1).ex E2 R2).ex E3 R3).ex E4 R4)
        · exact p3.elim
      · exact p2.elim
    · exact p2.elim
  · exact p2.elim
end
abbrev LI := En → EH → ((EH → Prop) → List EV → EH → Prop) → Prop
def SimIt (K : PySem.W.Frag) (m : Nat → Addr) (n : Nat) (H : Hp) (J : It) (g : EH → Prop) (xs : List EV) : Prop :=
  ∀ (i : Nat) (h' : EH) (m' : Nat → Addr) (H' : Hp), Ex K m n H m' h'.length H' → RelH K m' h' H' → g h' →
    (∀ x, xs[i]? = some x → J.go i H' ∧ ∀ v H2, J.yld i H' v H2 → Ex K m' h'.length H' m' h'.length H2 ∧ RelH K m' h' H2 ∧ RelE K m' h'.length H2 x v) ∧ (xs.length = i → J.stop i H')
def upI (K : PySem.W.Frag) (t : LI) : TI := fun σ H R => ∃ m env h P, At K env h m σ H ∧ t env h P ∧
  ∀ g xs h', P g xs h' → ∀ (m' : Nat → Addr) (H' : Hp) (J : It), Ex K m h.length H m' h'.length H' → RelH K m' h' H' → SimIt K m' h'.length H' J g xs → R J H'
structure LIt (X : Cx) (tg iter : Expr) (t : LI) : Prop where
  pi : PI X tg iter (upI X.K t)
def lTrue : EH → Prop := fun _ => True
def loopE (g : EH → Prop) (p : Pat) (tb : LS) (D : LEnds) : List EV → En → EH → Prop
  | [], env, h => g h ∧ D.nx env h
  | x :: xs, env, h => g h ∧ lBind h p x env fun env2 => tb { D with nx := loopE g p tb D xs, ct := loopE g p tb D xs, bk := D.nx } env2 h
def lFor (ti : LI) (p : Pat) (tb : LS) : LS := fun D env h => ti env h fun g xs h1 => loopE g p tb D xs env h1
def whileE (c : LTt) (tb : LS) (D : LEnds) : Nat → En → EH → Prop
  | 0, _, _ => False
  | n + 1, env, h => c env h fun b h1 => if b = true then tb { D with nx := whileE c tb D n, ct := whileE c tb D n, bk := D.nx } env h1 else D.nx env h1
def lWhile (c : LTt) (tb : LS) : LS := fun D env h => ∃ n, whileE c tb D n env h
section
variable {X : Cx} {pos : Pos}
theorem ls_for {tg iter : Expr} {body : List Stmt} {ti : LI} {p : Pat} {tb : LS} (hp : PassesOwn (model X.prog X.w) X.A X.env X.xe) (hc : X.calm = true) (hi : LIt X tg iter ti) (hg : LG X tg p) (hb : LSs X body tb)
    (hs : ∀ x, foldedSetIterable iter X.env x = pure x := by intro _; rfl) : LSt X (.For tg iter body [] pos) (lFor ti p tb) := by
  refine ⟨PS.imp (ps_for hp hc hi.pi hg.pg hb.pss hs) fun D σ H ⟨m, env, h, P, at_, t1, k⟩ => ⟨m, env, h, _, at_, t1, fun g xs h1 p1 m1 H1 J E1 R1 sim => ?_⟩⟩
  refine ⟨fun i c σ' H' => c = xs.length - i ∧ i ≤ xs.length ∧ ∃ m2 env2 h2, Ex X.K m1 h1.length H1 m2 h2.length H' ∧ At X.K env2 h2 m2 σ' H' ∧ loopE g p tb P (xs.drop i) env2 h2, ⟨xs.length, by simp, Nat.zero_le _, m1, env, h1, .refl, at_.ex E1 R1, by simpa using p1⟩, ?_⟩
  rintro i c σ' H' ⟨rfl, hi, m2, env2, h2, E2, a2, q⟩
  by_cases hlt : i < xs.length
  · have ed : xs.drop i = xs[i] :: xs.drop (i + 1) := List.drop_eq_getElem_cons hlt
    rw [ed, loopE] at q
    obtain ⟨qg, q⟩ := q
    obtain ⟨s1, s2⟩ := sim i h2 m2 H' E2 a2.hp qg
    obtain ⟨go, yl⟩ := s1 xs[i] (List.getElem?_eq_getElem hlt)
    refine .inr ⟨go, fun σ3 H3 => ∃ m3 env3 h3, Ex X.K m1 h1.length H1 m3 h3.length H3 ∧ At X.K env3 h3 m3 σ3 H3 ∧ loopE g p tb P (xs.drop (i + 1)) env3 h3, fun σ3 H3 ⟨m3, env3, h3, E3, a3, q3⟩ => ⟨xs.length - (i + 1), by omega, rfl, hlt, m3, env3, h3, E3, a3, q3⟩, fun v H3 y => ?_⟩
    obtain ⟨E3, R3, r3⟩ := yl v H3 y
    obtain ⟨env4, σ4, q4, f, R4, _, _⟩ := bind_sim R3 (a2.nm.ex E3) r3 q
    refine f _ ⟨m2, env4, h2, _, ⟨R3, R4⟩, q4, ?_⟩
    have E13 := E2.trans E3
    have k13 := k.ex (E1.trans E13)
    exact ⟨fun e5 h5 p5 m5 H5 σ5 E5 a5 => ⟨m5, e5, h5, E13.trans E5, a5, p5⟩, k13.rt, k13.nx, fun e5 h5 p5 m5 H5 σ5 E5 a5 => ⟨m5, e5, h5, E13.trans E5, a5, p5⟩⟩
  · have e : i = xs.length := by omega
    subst e
    rw [List.drop_length, loopE] at q
    obtain ⟨_, s2⟩ := sim xs.length h2 m2 H' E2 a2.hp q.1
    exact .inl ⟨s2 rfl, k.nx _ _ q.2 m2 H' σ' (E1.trans E2) a2⟩
theorem ls_while {c : Expr} {body : List Stmt} {tc : LTt} {tb : LS} (hp : PassesOwn (model X.prog X.w) X.A X.env X.xe) (hc : LTe X c tc) (hb : LSs X body tb) : LSt X (.While c body [] pos) (lWhile tc tb) := by
  refine ⟨PS.imp (ps_while hp hc.pt hb.pss) fun D σ H ⟨m, env, h, P, at_, t1, k⟩ => ?_⟩
  obtain ⟨n, t1⟩ := t1
  refine ⟨fun c σ' H' => ∃ m2 env2 h2, Ex X.K m h.length H m2 h2.length H' ∧ At X.K env2 h2 m2 σ' H' ∧ whileE tc tb P c env2 h2, ⟨n, m, env, h, .refl, at_, t1⟩, ?_⟩
  rintro c σ' H' ⟨m2, env2, h2, E2, a2, q⟩
  cases c with
  | zero => exact q.elim
  | succ c =>
    rw [whileE] at q
    refine ⟨m2, env2, h2, _, a2, q, fun b h3 p3 m3 H3 E3 R3 => ?_⟩
    cases b with
    | true =>
      rw [if_pos rfl] at p3 ⊢
      have E13 := E2.trans E3
      have k13 := k.ex E13
      refine ⟨fun σ4 H4 => ∃ m4 env4 h4, Ex X.K m h.length H m4 h4.length H4 ∧ At X.K env4 h4 m4 σ4 H4 ∧ whileE tc tb P c env4 h4, fun σ4 H4 q4 => ⟨c, Nat.lt_succ_self c, q4⟩, m3, env2, h3, _, a2.ex E3 R3, p3, ?_⟩
      exact ⟨fun e5 h5 p5 m5 H5 σ5 E5 a5 => ⟨m5, e5, h5, E13.trans E5, a5, p5⟩, k13.rt, k13.nx, fun e5 h5 p5 m5 H5 σ5 E5 a5 => ⟨m5, e5, h5, E13.trans E5, a5, p5⟩⟩
    | false =>
      rw [if_neg Bool.false_ne_true] at p3 ⊢
      exact k.nx _ _ p3 m3 H3 σ' (E2.trans E3) (a2.ex E3 R3)
def lIt (t : LT) : LI := fun env h P => t env h fun v h1 => match v with
  | .ref r => match h1[r]? with
    | some (.lst xs) => P (fun h' => h'[r]? = some (.lst xs)) xs h1
    | some (.frz xs) => P (fun h' => h'[r]? = some (.frz xs)) xs h1
    | _ => False
  | .tup xs => P lTrue xs h1
  | .ktup xs => P lTrue xs h1
  | .str s => P lTrue (s.map fun c => .str [c]) h1
  | _ => False
def iAny (K : PySem.W.Frag) (te : TE) : TI := fun σ H R => te σ H fun x H1 => (∃ a, x = .ref a ∧ (∃ xs, SqL K H1 a xs) ∧ R (Itl K a) H1) ∨ (∃ a, x = .ref a ∧ (∃ xs, SqT K H1 a xs) ∧ R (Itt K a) H1) ∨ ∃ z, x = .str z ∧ R (Its z) H1
theorem pi_any {tg e : Expr} {te : TE} (he : PE X e te) : PI X tg e (iAny X.K te) := by
  refine ⟨fun pins s σ H R I h => thn (he.run pins s σ H _ I h) fun v s1 ⟨x, H1, I1, r1, q⟩ => ?_⟩
  rcases q with ⟨a, rfl, ⟨xs, hq⟩, q⟩ | ⟨a, rfl, ⟨xs, hq⟩, q⟩ | ⟨z, rfl, q⟩
  · cases r1
    obtain ⟨its, rv, p, hz⟩ := I1.list hq
    exact wpAny_pyIter_list p.isList (pi_one (tk := s1.toks) I1 _ (turn_list a _) ⟨_, Heap.get?_push_size _ rfl, rfl, rfl⟩ q)
  · cases r1
    obtain ⟨its, rv, p, hz⟩ := I1.tuple hq
    exact wpAny_pyIter_tuple (show s1.heap.IsTuple a its.toArray from p) (pi_one (tk := s1.toks) I1 _ (turn_tuple a _) ⟨_, Heap.get?_push_size _ rfl, rfl, rfl⟩ q)
  · obtain ⟨t, rfl⟩ := r1
    cases ha : z.cps.all (· < 128)
    · exact wpAny_pyIter_wide ha (pi_one (tk := s1.toks) I1 _ (turn_str _ z t "str_iterator" (.inr rfl)) ⟨_, Heap.get?_push_size _ rfl, rfl, rfl⟩ q)
    · exact wpAny_pyIter_ascii ha (pi_one (tk := s1.toks) I1 _ (turn_str _ z t "str_ascii_iterator" (.inl rfl)) ⟨_, Heap.get?_push_size _ rfl, rfl, rfl⟩ q)
theorem SimIt.lst {K : PySem.W.Frag} {m : Nat → Addr} {n r : Nat} {H : Hp} {xs : List EV} {g : EH → Prop} (hr : r < n)
    (hh : ∀ h' m' H', Ex K m n H m' h'.length H' → RelH K m' h' H' → g h' → ∃ us, SqL K H' (m' r) us ∧ RelEs K m' h'.length H' xs us) : SimIt K m n H (Itl K (m r)) g xs := by
  intro i h' m' H' E' R' gh
  obtain ⟨us, s1, r1⟩ := hh h' m' H' E' R' gh
  rw [E'.eq r hr] at s1
  refine ⟨fun x hx => ?_, fun hi => ⟨us, s1, by rw [← r1.length]; exact Nat.le_of_eq hi⟩⟩
  obtain ⟨u, hu, ru⟩ := r1.at hx
  refine ⟨⟨us, u, s1, hu⟩, fun v H2 ⟨e, y⟩ => ?_⟩
  subst e
  have := y us s1
  rw [hu] at this
  cases this
  exact ⟨.refl, R', ru⟩
theorem lit_any {tg e : Expr} {t : LT} (he : LE X e t) : LIt X tg e (lIt t) := by
  refine ⟨PI.imp (pi_any he.pe) fun σ H R ⟨m, env, h, P, at_, t1, k⟩ => ⟨m, env, h, _, at_, t1, fun v h1 p1 m1 H1 x E1 R1 r1 => ?_⟩⟩
  split at p1
  · rename_i r
    rw [RelE] at r1
    obtain ⟨hr, rfl⟩ := r1
    split at p1
    · rename_i xs e
      obtain ⟨vs, a, r2⟩ := R1.obj _ _ e
      refine .inl ⟨_, rfl, ⟨vs, SqL.of a⟩, k _ xs h1 p1 m1 H1 _ E1 R1 (SimIt.lst hr fun h' m' H' E' R' gh => ?_)⟩
      obtain ⟨us, a', r'⟩ := R'.obj _ _ gh
      exact ⟨us, SqL.of a', r'⟩
    · rename_i xs e
      obtain ⟨vs, a, r2⟩ := R1.obj _ _ e
      refine .inl ⟨_, rfl, ⟨vs, a.sql⟩, k _ xs h1 p1 m1 H1 _ E1 R1 (SimIt.lst hr fun h' m' H' E' R' gh => ?_)⟩
      obtain ⟨us, a', r'⟩ := R'.obj _ _ gh
      exact ⟨us, a'.sql, r'⟩
    · exact p1.elim
  · rename_i xs
    rw [RelE] at r1
    obtain ⟨a, vs, rfl, hs, r2⟩ := r1
    refine .inr (.inl ⟨_, rfl, ⟨vs, SqT.of hs⟩, k _ xs h1 p1 m1 H1 _ E1 R1 fun i h' m' H' E' R' _ => ?_⟩)
    have hs' := E'.tup _ _ (SqT.of hs)
    have r' := RelEs.ex E' _ _ r2
    refine ⟨fun x hx => ?_, fun hi => ⟨vs, hs', by rw [← r'.length]; exact Nat.le_of_eq hi⟩⟩
    obtain ⟨u, hu, ru⟩ := r'.at hx
    refine ⟨⟨vs, u, hs', hu⟩, fun v H2 ⟨e, y⟩ => ?_⟩
    subst e
    have := y vs hs'
    rw [hu] at this
    cases this
    exact ⟨.refl, R', ru⟩
  · rename_i xs
    rw [RelE] at r1
    obtain ⟨a, vs, rfl, hs, r2⟩ := r1
    refine .inr (.inl ⟨_, rfl, ⟨vs, hs⟩, k _ xs h1 p1 m1 H1 _ E1 R1 fun i h' m' H' E' R' _ => ?_⟩)
    have hs' := E'.tup _ _ hs
    have r' := RelEs.ex E' _ _ r2
    refine ⟨fun x hx => ?_, fun hi => ⟨vs, hs', by rw [← r'.length]; exact Nat.le_of_eq hi⟩⟩
    obtain ⟨u, hu, ru⟩ := r'.at hx
    refine ⟨⟨vs, u, hs', hu⟩, fun v H2 ⟨e, y⟩ => ?_⟩
    subst e
    have := y vs hs'
    rw [hu] at this
    cases this
    exact ⟨.refl, R', ru⟩
  · rename_i s
    rw [RelE] at r1
    subst r1
    refine .inr (.inr ⟨_, rfl, k _ _ h1 p1 m1 H1 _ E1 R1 fun i h' m' H' E' R' _ => ?_⟩)
    refine ⟨fun x hx => ?_, fun hi => ?_⟩
    · rw [List.getElem?_map] at hx
      obtain ⟨c, hc, rfl⟩ := Option.map_eq_some_iff.mp hx
      have hl := (List.getElem?_eq_some_iff.mp hc).1
      refine ⟨by show i < s.toArray.size; simpa using hl, fun v H2 ⟨e, c', hc', y⟩ => ?_⟩
      subst e y
      have e2 : s[i]? = some c' := by simpa using hc'
      rw [hc] at e2
      cases e2
      exact ⟨.refl, R', by rw [RelE]⟩
    · show s.toArray.size ≤ i
      simpa using Nat.le_of_eq hi
  · exact p1.elim
def rangeL (lo : Int) (n : Nat) : List EV := (List.range n).map fun (i : Nat) => EV.int (lo + i)
def lRng1 (ta : LA) : LI := fun env h P => ta env h fun vs h1 => match vs with
  | [.int j] => (-(2 ^ 62) ≤ j ∧ j < 2 ^ 62) ∧ P lTrue (rangeL 0 j.toNat) h1
  | _ => False
def lRng2 (ta : LA) : LI := fun env h P => ta env h fun vs h1 => match vs with
  | [.int i, .int j] => (-(2 ^ 62) ≤ i ∧ i < 2 ^ 62 ∧ -(2 ^ 62) ≤ j ∧ j < 2 ^ 62) ∧ P lTrue (rangeL i (j - i).toNat) h1
  | _ => False
theorem SimIt.rng {K : PySem.W.Frag} {m : Nat → Addr} {n : Nat} {H : Hp} {lo : Int} {k : Nat} {g : EH → Prop} : SimIt K m n H (Itr lo k) g (rangeL lo k) := by
  intro i h' m' H' E' R' gh
  unfold rangeL
  refine ⟨fun x hx => ?_, fun hi => by show k ≤ i; simpa using Nat.le_of_eq hi⟩
  rw [List.getElem?_map] at hx
  obtain ⟨j, hj, rfl⟩ := Option.map_eq_some_iff.mp hx
  obtain ⟨hl, e⟩ := List.getElem?_eq_some_iff.mp hj
  rw [List.length_range] at hl
  rw [List.getElem_range] at e
  subst e
  refine ⟨hl, fun v H2 ⟨e1, e2⟩ => ?_⟩
  subst e1 e2
  exact ⟨.refl, R', by rw [RelE]⟩
theorem lit_range1 {tg a : Expr} {ta : LA} {p pos : Pos} (hg : Gl X "range") (hm : X.mg "range" = none) (ha : LAs X [a] ta) (hs : starEach [a] X.env = [(false, eval a X.env)] := by rfl) : LIt X tg (.Call (.Name "range" p) [a] [] pos) (lRng1 ta) := by
  refine ⟨PI.imp (pi_range1 hg hm ha.pa hs) fun σ H R ⟨m, env, h, P, at_, t1, k⟩ => ⟨m, env, h, _, at_, t1, fun vs h1 p1 m1 H1 xs E1 R1 r1 => ?_⟩⟩
  split at p1
  · obtain ⟨v, rfl, r2⟩ := r1.one_inv
    rw [RelE] at r2
    subst r2
    exact ⟨_, rfl, p1.1.1, p1.1.2, k _ _ h1 p1.2 m1 H1 _ E1 R1 SimIt.rng⟩
  · exact p1.elim
def wipeE (env : En) : List Nat → En
  | [] => env
  | v :: vs => (wipeE env vs).set v none
theorem RelN.wipe {K : PySem.W.Frag} {m : Nat → Addr} {n : Nat} {H : Hp} {env : En} {σ : L2.St} (R : RelN K m n H env σ) : ∀ vs, RelN K m n H (wipeE env vs) (wipe σ vs)
  | [] => R
  | v :: vs => by
    have r := RelN.wipe R vs
    unfold wipeE L2.wipe
    refine ⟨by simpa using r.1, fun j w hj => ?_⟩
    by_cases e : v = j
    · subst e
      have hl : v < (wipeE env vs).length := by
        have := (List.getElem?_eq_some_iff.mp hj).1
        simpa using this
      rw [List.getElem?_set_self hl] at hj
      cases hj
    · rw [List.getElem?_set_ne e] at hj ⊢
      exact r.2 j w hj
theorem wipe_at (σ : L2.St) : ∀ (vs : List Nat) (i : Nat), (wipe σ vs)[i]? = if i ∈ vs then (σ[i]?).map (fun _ => none) else σ[i]?
  | [], i => by simp [L2.wipe]
  | v :: vs, i => by
    unfold L2.wipe
    rw [List.getElem?_set, wipe_at σ vs i, wipe_length]
    by_cases e : v = i
    · subst e
      by_cases hl : v < σ.length
      · simp [hl]
      · simp [hl]
    · have : ¬ i = v := fun z => e z.symm
      simp [e, this]
theorem wipe_back {σ σ' : L2.St} {vs ss : List Nat} (h : ∀ i, i ∉ ss → σ'[i]? = (wipe σ vs)[i]?) (hs : ∀ i ∈ ss, i ∈ vs) (hl : σ'.length = σ.length) : wipe σ' vs = wipe σ vs := by
  refine List.ext_getElem? fun i => ?_
  rw [wipe_at, wipe_at]
  by_cases hv : i ∈ vs
  · rw [if_pos hv, if_pos hv]
    by_cases hi : i < σ.length
    · rw [List.getElem?_eq_getElem hi, List.getElem?_eq_getElem (by omega)]; rfl
    · rw [List.getElem?_eq_none (by omega), List.getElem?_eq_none (by omega)]
  · rw [if_neg hv, if_neg hv, h i fun z => hv (hs i z), wipe_at, if_neg hv]
structure LTs (X : Cx) (ifs : List Expr) (t : LTt) : Prop where
  pts : PTs X ifs (upT X.K t)
def lYes : LTt := fun _ h P => P true h
theorem PTs.imp {e : List Expr} {t t' : TT} (h : PTs X e t) (i : ∀ σ H Q, t' σ H Q → t σ H Q) : PTs X e t' := ⟨fun pins s σ H Q I q => h.run pins s σ H Q I (i σ H Q q)⟩
theorem lts_nil : LTs X [] lYes := ⟨PTs.imp pts_nil fun σ H Q ⟨m, env, h, P, at_, t1, k⟩ => k _ _ t1 m H .refl at_.hp⟩
theorem lts_one {c : Expr} {t : LTt} (h : LTe X c t) : LTs X [c] t := ⟨pts_one h.pt⟩
def lcE (g : EH → Prop) (p : Pat) (tt : LTt) (te : LT) (d : Nat) (env : En) (P : EK) : List EV → EH → Prop
  | [], h => g h ∧ P (.ref d) h
  | x :: xs, h => g h ∧ lBind h p x env fun env2 => tt env2 h fun b h3 => if b = true then te env2 h3 fun y h4 => match h4[d]? with
      | some (.lst acc) => acc.length < sizeLine ∧ lcE g p tt te d env P xs (h4.set d (.lst (acc ++ [y])))
      | _ => False
    else lcE g p tt te d env P xs h3
def lLc (ti : LI) (p : Pat) (tt : LTt) (te : LT) (vs : List Nat) : LT := fun env h P => ti env h fun g xs h1 => lcE g p tt te h1.length (wipeE env vs) P xs (h1 ++ [.lst []])
theorem le_lc {elt tg iter : Expr} {ifs : List Expr} {scope : Scope} (own : List (Str × Nat)) {ti : LI} {p : Pat} {tt : LTt} {te : LT} (hc : X.calm = true) (hN : X.N.Nodup) (hi : LIt X tg iter ti) (ok : BlkOk X.N X.env.scope scope own)
    (hp : ∀ i ∈ Pat.slots p, i ∈ own.map (·.2))
    (hg : ∀ (s : Shared) (H : Hp) (C : Addr) (cl : List (Str × Addr)) (fp : List Addr), LG (X.blk s H scope (compEnvC scope cl C X.env) fp) tg p)
    (ht : ∀ (s : Shared) (H : Hp) (C : Addr) (cl : List (Str × Addr)) (fp : List Addr), LTs (X.blk s H scope (compEnvC scope cl C X.env) fp) ifs tt)
    (he : ∀ (s : Shared) (H : Hp) (C : Addr) (cl : List (Str × Addr)) (fp : List Addr), LE (X.blk s H scope (compEnvC scope cl C X.env) fp) elt te) (hs : ∀ x, foldedSetIterable iter X.env x = pure x := by intro _; rfl) :
    LE X (.ListComp elt [⟨tg, iter, ifs, 0⟩] scope pos) (lLc ti p tt te (own.map (·.2))) := by
  refine ⟨PE.imp (pe_lc (g := gP X.K p) (tt := upT X.K tt) (te := up X.K te) hc hN hi.pi ok (fun s H C cl fp => (hg s H C cl fp).pg) (fun s H C cl fp => (ht s H C cl fp).pts) (fun s H C cl fp => (he s H C cl fp).pe) hs) fun σ H Q ⟨m, env, h, P, at_, t1, k⟩ => ⟨m, env, h, _, at_, t1, fun g xs h1 p1 m1 H1 J E1 R1 sim D hD => ?_⟩⟩
  have E2 : Ex X.K m1 h1.length H1 (mput m1 h1.length D) (h1 ++ [EO.lst []]).length (upd H1 D (.lst [])) := Ex.new hD
  have R2 : RelH X.K (mput m1 h1.length D) (h1 ++ [EO.lst []]) (upd H1 D (.lst [])) := R1.new hD ⟨[], upd_same, .nil⟩
  refine ⟨fun i c H' => c = xs.length - i ∧ i ≤ xs.length ∧ ∃ m2 h2, Ex X.K m1 h1.length H1 m2 h2.length H' ∧ RelH X.K m2 h2 H' ∧ m2 h1.length = D ∧ h1.length < h2.length ∧ lcE g p tt te h1.length (wipeE env (own.map (·.2))) P (xs.drop i) h2,
    ⟨xs.length, by simp, Nat.zero_le _, _, _, E2, R2, mput_at, by simp, by simpa using p1⟩, ?_⟩
  rintro i c H' ⟨rfl, hi, m2, h2, E3, R3, eD, lD, q⟩
  by_cases hlt : i < xs.length
  · have ed : xs.drop i = xs[i] :: xs.drop (i + 1) := List.drop_eq_getElem_cons hlt
    rw [ed, lcE] at q
    obtain ⟨qg, q⟩ := q
    obtain ⟨s1, s2⟩ := sim i h2 m2 H' E3 R3 qg
    obtain ⟨go, yl⟩ := s1 xs[i] (List.getElem?_eq_getElem hlt)
    refine .inr ⟨go, fun H4 => ∃ m4 h4, Ex X.K m1 h1.length H1 m4 h4.length H4 ∧ RelH X.K m4 h4 H4 ∧ m4 h1.length = D ∧ h1.length < h4.length ∧ lcE g p tt te h1.length (wipeE env (own.map (·.2))) P (xs.drop (i + 1)) h4,
      fun H4 q4 => ⟨xs.length - (i + 1), by omega, rfl, hlt, q4⟩, fun v H4 y => ?_⟩
    obtain ⟨E4, R4, r4⟩ := yl v H4 y
    have E14 := (E1.trans E3).trans E4
    obtain ⟨env5, σ5, q5, f, N5, keep, len⟩ := bind_sim R4 ((at_.nm.ex E14).wipe (own.map (·.2))) r4 q
    refine f _ ⟨wipe_back (ss := Pat.slots p) keep hp (by rw [len, wipe_length]), m2, env5, h2, _, ⟨R4, N5⟩, q5, fun b h6 p6 m6 H6 E6 R6 => ?_⟩
    have E16 := (E3.trans E4).trans E6
    have lt2 := E6.le
    have eD6 : m6 h1.length = D := (E6.eq _ lD).trans eD
    cases b with
    | false =>
      dsimp only
      rw [if_neg Bool.false_ne_true] at p6 ⊢
      exact ⟨m6, h6, E16, R6, eD6, by omega, p6⟩
    | true =>
      dsimp only
      rw [if_pos rfl] at p6 ⊢
      refine ⟨m6, env5, h6, _, ⟨R6, N5.ex E6⟩, p6, fun w h7 p7 m7 H7 y7 E7 R7 r7 => ?_⟩
      have lt7 := E7.le
      have eD7 : m7 h1.length = D := (E7.eq _ (by omega)).trans eD6
      split at p7
      · rename_i acc e7
        obtain ⟨vs, a, r⟩ := R7.obj _ _ e7
        rw [eD7] at a
        refine ⟨vs, a, by rw [← r.length]; exact p7.1, ?_⟩
        have E8 := Ex.write (o := .lst (vs ++ [y7])) (e' := EO.lst (acc ++ [w])) R7 e7
        have R8 := R7.write (o := .lst (vs ++ [y7])) (e' := EO.lst (acc ++ [w])) e7 ⟨_, upd_same, (RelEs.ex E8 _ _ r).app (.one (RelE.ex E8 _ _ r7))⟩
        rw [eD7] at E8 R8
        exact ⟨m7, _, (E16.trans E7).trans E8, R8, eD7, by simp; omega, p7.2⟩
      · exact p7.elim
  · have e : i = xs.length := by omega
    subst e
    rw [List.drop_length, lcE] at q
    obtain ⟨_, s2⟩ := sim xs.length h2 m2 H' E3 R3 q.1
    refine .inl ⟨s2 rfl, k _ _ q.2 m2 H' _ (E1.trans E3) R3 (by rw [RelE]; exact ⟨lD, by rw [eD]⟩)⟩
end
end Y

namespace Y
open PySem PySem.Spec PyProof.Rows L2

abbrev LSp := List EV → EH → EK → Prop
def upSp (K : PySem.W.Frag) (sp : LSp) : List V → Hp → VK → Prop := fun vs H Q => ∃ m h evs P, RelH K m h H ∧ RelEs K m h.length H evs vs ∧ sp evs h P ∧ Kon K m h.length H P Q
structure FnG (P : Program) (w : World) (K : PySem.W.Frag) (mg : Str → Option Value) (base : Heap) (k : Nat) (f : Addr) (fd : FuncData) (ps : List Str) (sp : LSp) : Prop where
  len : ∀ evs h Q, sp evs h Q → evs.length = ps.length
  run : ∀ (A : Around) (outer : List Env) (s : Shared) (H : Hp) (args : Args) (us : List Value) (vs : List V) (Q : VK), Room k A → A.guards = some [] → Env0 P w K mg base A outer s H →
    BindsTo s fd args (ps.zip us) → Vals vs us → upSp K sp vs H Q → codeAny (model P w) A (.call (.ref f) args) (CR CX0 outer P w H s Q E0) s
def lCall (sp : LSp) (t : LA) : LT := fun env h P => t env h fun vs h1 => sp vs h1 P
section
variable {X : Cx} {k : Nat} {f : Addr} {fd : FuncData} {ps : List Str} {sp : LSp} {x : Str} {p pos : Pos} {e : Expr} {es : List Expr} {t : LA}
theorem upSp.len {K : PySem.W.Frag} {vs : List V} {H : Hp} {Q : VK} {n : Nat} (l : ∀ evs h Q, sp evs h Q → evs.length = n) (q : upSp K sp vs H Q) : vs.length = n := by
  obtain ⟨m, h, evs, P, R, r, s, _⟩ := q
  rw [← r.length]
  exact l _ _ _ s
theorem runG {pins : List (Addr × Obj)} {σ : L2.St} {H : Hp} {s : Shared} {Q : VK} {us : List Value} {vs : List V} (F : FnG X.prog X.w X.K X.mg X.base k f fd ps sp) (hr : Room k X.A) (hG : X.A.guards = some [])
    (hb : Binds X.K fd ps []) (I : Inv X pins σ H s) (r : Vals vs us) (q : upSp X.K sp vs H Q) : wpAny (model X.prog X.w) X.A (call (.ref f) us) (EP X pins σ Q) X.xe s := by
  have hl : us.length = ps.length := r.length.symm.trans (upSp.len F.len q)
  have b := hb s us I.kIn (by simpa using hl)
  rw [List.append_nil] at b
  refine wpAny_call (codeAny_mono (F.run X.A X.stack s H _ us vs Q hr hG I.env0 b r q) fun o s' ho => ?_)
  match o, ho with
  | .error _, ho => exact ho.elim
  | .ok (.ret u), ho => exact I.after ho
  | .ok .next, ho => exact ho.elim
  | .ok .brk, ho => exact ho.elim
  | .ok .cont, ho => exact ho.elim
theorem up_call {K : PySem.W.Frag} (σ : L2.St) (H : Hp) (Q : VK) (q : up K (lCall sp t) σ H Q) : upA K t σ H fun vs H1 => upSp K sp vs H1 Q := by
  obtain ⟨m, env, h, P, at_, t1, k⟩ := q
  exact ⟨m, env, h, _, at_, t1, fun vs h1 p1 m1 H1 xs E1 R1 r1 => ⟨m1, h1, vs, P, R1, r1, p1, k.ex E1⟩⟩
theorem le_call (F : FnG X.prog X.w X.K X.mg X.base k f fd ps sp) (hr : Room k X.A) (hG : X.A.guards = some []) (hg : Gl X x) (hm : X.mg x = some (.ref f)) (hk : PySem.W.keepIn X.K (.ref f) = true) (hb : Binds X.K fd ps [])
    (ha : LAs X (e :: es) t) (hdb : (x == ("__debug__" : Str)) = false := by decide) (he : starEach (e :: es) X.env = (false, eval e X.env) :: starEach es X.env := by rfl) (hpl : (backTo pos (starEach es X.env)).any (·.1) = false := by rfl) :
    LE X (.Call (.Name x p) (e :: es) [] pos) (lCall sp t) :=
  ⟨⟨fun pins s σ H Q I q => wpAny_Call_Name_kw (ld_glob I hg hm (PySem.W.callWith_K (h₀ := X.base) I.ok.mod.kin hk (thn (ha.pa.run pos pins s σ H _ I (up_call σ H Q q)) fun us s1 ⟨vs, H1, I1, r, q1⟩ =>
    ⟨I1.kIn, runG F hr hG hb I1 r q1⟩) he hpl) hdb)⟩⟩
end
def startE (N : List Str) (vs : List EV) : En := vs.map some ++ List.replicate (N.length - vs.length) none
theorem start_rel {K : PySem.W.Frag} {m : Nat → Addr} {n : Nat} {H : Hp} (N : List Str) {evs : List EV} {vs : List V} (r : RelEs K m n H evs vs) : RelN K m n H (startE N evs) (start N vs) := by
  have l := r.length
  unfold startE L2.start
  refine ⟨by simp [l], fun i v h => ?_⟩
  by_cases hi : i < evs.length
  · rw [List.getElem?_append_left (by simpa using hi), List.getElem?_map] at h
    obtain ⟨w, hw, e⟩ := Option.map_eq_some_iff.mp h
    cases e
    obtain ⟨x, hx, rx⟩ := r.at hw
    exact ⟨x, by rw [List.getElem?_append_left (by simp; omega), List.getElem?_map, hx]; rfl, rx⟩
  · rw [List.getElem?_append_right (by simpa using hi), List.getElem?_replicate] at h
    split at h <;> cases h
abbrev endsOf (Q : EK) : LEnds := { nx := fun _ h => Q .non h, rt := Q }
theorem fnG_of {P : Program} {w : World} {K : PySem.W.Frag} {mg : Str → Option Value} {base : Heap} {k : Nat} {f : Addr} {fd : FuncData} {name qual : Str} {params : Arguments} {body : List Stmt} {scope : Scope} {N ps : List Str} {sp : LSp}
    (F : FunD K name qual params body scope [] [] f fd) (Sc : FnScope N ps scope) (len : ∀ evs h Q, sp evs h Q → evs.length = ps.length)
    (hbody : ∀ (cdv : Value) (A : Around) (outer : List Env) (s : Shared) (H : Hp), Room k (A.deeper (envOfC qual scope s.heap.objs.size f cdv)) → (A.deeper (envOfC qual scope s.heap.objs.size f cdv)).guards = some [] →
      ∃ t, LSs (cxOf CX0 P w K mg base N qual scope f cdv A outer s H E0).nox body t ∧ ∀ evs h Q, sp evs h Q → t (endsOf Q) (startE N evs) h) :
    FnG P w K mg base (k + 1) f fd ps sp := by
  obtain ⟨oc, od, dV, kV, doc, pm, an, cdv, ct, osl, rfl, lk, hcd, _, _⟩ := F.ex
  refine ⟨len, fun A outer s H args us vs Q hr hG e0 hb r q => ?_⟩
  have hl : vs.length = ps.length := upSp.len len q
  have keepB : ∀ b o, base.get? b = some o → s.heap.get? b = some o := fun b o e => (e0.bs b o e).1
  have inK := e0.mod.kin.keeps keepB
  obtain ⟨t, ht, hq⟩ := hbody cdv A outer s H (hr.deeper _) hG
  refine codeAny_call_function hr.depth (inK _ _ lk) rfl Sc.co Sc.gen rfl (PySem.W.codeRec_of inK hcd) (hb _ _ _ _ ?_)
  refine wpAny_newFunctionEnv_cells Sc.kind (fun y hy => ?_) fun env he s1 x => ?_
  · rcases Sc.par y.1 (List.of_mem_zip hy).1 with z | z
    · exact .inl z
    · exact .inr ⟨z, PySem.W.cellsFrom_some _ _ _ (.inl z)⟩
  · subst he
    refine ⟨(e0.mod.nolimit.keeps keepB).keeps x.toInCall.keep, codeAny_func ?_⟩
    obtain ⟨m, h, evs, Pk, R, re, sq, kq⟩ := q
    have I := inv_start (CX := CX0) (P := P) (w := w) (K := K) (mg := mg) (base := base) (E := E0) Sc hr.hd e0 hl r x
    have run := ht.pss.nox.run [] s1 (start N vs) H { nx := fun _ H' => Q .non H', rt := Q } I ⟨m, startE N evs, h, endsOf Pk, ⟨R, start_rel N re⟩, hq evs h Pk sq, ⟨fun env' h' p m' H' σ' E' a' => kq _ _ p m' H' _ E' a'.hp (by rw [RelE]), kq, fun _ _ z => z.elim, fun _ _ z => z.elim⟩⟩
    refine wpAny_mono run (fun fl s' hs => ?_) fun e s' hs => hs
    match fl, hs with
    | .ret u, ⟨v, σ', H', J, rv, z⟩ => exact ⟨v, H', J.os, J.bare, J.base, J.hok, rv, z⟩
    | .next, ⟨σ', H', J, z⟩ => exact ⟨.non, H', J.os, J.bare, J.base, J.hok, rfl, z⟩
    | .brk, ⟨_, _, _, z⟩ => exact z.elim
    | .cont, ⟨_, _, _, z⟩ => exact z.elim
def spTop (n : Nat) : LSp := fun evs h Q => ∃ ns : List Int, evs = [.ref 0] ∧ h = [.frz (ns.map EV.int)] ∧ ns.length ≤ n ∧ ∀ h', Q (.bl true) h'
theorem rel_ints {K : PySem.W.Frag} {m : Nat → Addr} {n : Nat} {H : Hp} : ∀ ns : List Int, RelEs K m n H (ns.map EV.int) (ns.map V.int)
  | [] => .nil
  | i :: l => .cons (by rw [RelE]) (rel_ints l)
theorem up_top {K : PySem.W.Frag} {H : Hp} {a : Addr} {ns : List Int} {n : Nat} (hl : ns.length ≤ n) (hf : FrzL K H a (ns.map V.int)) : upSp K (spTop n) [.ref a] H fun v _ => v = .bl true := by
  refine ⟨fun _ => a, [.frz (ns.map EV.int)], [.ref 0], fun v _ => v = .bl true, ⟨fun r o hr => ?_, fun r q o u hr hq fo => ?_⟩, .one (by rw [RelE]; exact ⟨Nat.one_pos, rfl⟩), ⟨ns, rfl, rfl, hl, fun _ => rfl⟩, fun v h' e m' H' x E R r => ?_⟩
  · cases r with
    | zero =>
      cases hr
      exact ⟨_, hf, rel_ints ns⟩
    | succ r => simp at hr
  · cases r with
    | zero => cases hr; cases fo
    | succ r => simp at hr
  · subst e
    rw [RelE] at r
    exact r
section
variable {P : Program} {w : World} {K : PySem.W.Frag} {mg : Str → Option Value}
theorem topCall {mb : Str → Option Value} {k n : Nat} {fa a : Addr} {fd : FuncData} {x : Str} {s₁ : Shared} {vs : List Value} {ns : List Int} (KX : K.In s₁.heap) (hns : s₁.heap.Ns mainGlobals mg) (hb : s₁.heap.Ns builtinsNs mb)
    (hbb : ∀ x : Str, x ≠ "__name__" → mb x = bootBuiltins x) (hlim : s₁.heap.NoLimit) (hg : s₁.gens = #[]) (ha : s₁.heap.get? a = some { cls := .type "list", data := .seq vs.toArray }) (hi : IntsAre vs ns) (hl : ns.length ≤ n) (hn : n ≤ sizeLine) (hr : Room k callerA)
    (F : ∀ base : Heap, K.In base → base.Ns mainGlobals mg → FnG P w K mg base k fa fd [x] (spTop n)) (hbind : ∀ (s : Shared) (u : Value), BindsTo s fd ⟨[u], []⟩ [(x, u)]) :
    codeAny (model P w) callerA (.call (.ref fa) ⟨[.ref a], []⟩) (fun r s' => r = .ok (.ret (.bool true)) ∧ OldK s₁.heap s'.heap ∧ s'.os = s₁.os ∧ AllBare s'.gens) s₁ := by
  -- H: the script, locked, or nothing at all
  have go : ∀ H : Hp, (∀ b u, H b = some u → b = a ∧ u = .frz { cls := .type "list", data := .seq vs.toArray } (.lst (ns.map V.int))) → (∀ u, H a = some u → K.lookup a = none) → FrzL K H a (ns.map V.int) →
      codeAny (model P w) callerA (.call (.ref fa) ⟨[.ref a], []⟩) (fun r s' => r = .ok (.ret (.bool true)) ∧ OldK s₁.heap s'.heap ∧ s'.os = s₁.os ∧ AllBare s'.gens) s₁ := by
    intro H hH hK hf
    have hok : HOk P w H s₁.heap := fun b u e => by
      obtain ⟨rfl, rfl⟩ := hH b u e
      exact ⟨ha, by rw [List.length_map]; omega, vs, _, vals_ints hi, ha⟩
    have off : ∀ {b : Addr} {o : Obj}, s₁.heap.get? b = some o → (b = a → H a = none) → (hidT s₁.heap H).get? b = some o := fun {b o} e z => hidT_get e (by
      cases q : H b with
      | none => rfl
      | some u =>
        have e2 := (hH b u q).1
        rw [e2, z e2] at q
        cases q)
    have ns' : ∀ {b : Addr} {m : Str → Option Value}, s₁.heap.Ns b m → (hidT s₁.heap H).Ns b m := fun {b m} ⟨o, es, ep, e, d, r⟩ => ⟨o, es, ep, off e (fun z => by
      subst z
      rw [ha] at e
      cases e
      cases (show Data.seq vs.toArray _ = Data.dict es ep from d)), d, r⟩
    have inB : K.In (hidT s₁.heap H) := fun b o e => off (KX b o e) fun z => by
      subst z
      cases q : H b with
      | none => rfl
      | some u => rw [hK u q] at e; cases e
    obtain ⟨ml, l1, l2⟩ := hlim
    have md : Mod K mg (hidT s₁.heap H) := ⟨inB, ns' hns, ⟨mb, ns' hb, hbb⟩, ⟨ml, ns' l1, l2⟩⟩
    have e0 : Env0 P w K mg (hidT s₁.heap H) callerA [] s₁ H := ⟨rfl, md, fun b o e => of_hidT e, Nat.le_of_eq (hidT_size _ _), trivial, fun b hb => (nomatch hb), hok, .of_eq hg⟩
    refine codeAny_mono ((F _ inB (ns' hns)).run callerA [] s₁ H ⟨[.ref a], []⟩ [.ref a] [.ref a] (fun v _ => v = .bl true) hr rfl e0 (hbind s₁ (.ref a)) (.cons rfl .nil) (up_top hl hf)) fun r s' h => ?_
    match r, h with
    | .error _, h => exact h.elim
    | .ok .next, h => exact h.elim
    | .ok .brk, h => exact h.elim
    | .ok .cont, h => exact h.elim
    | .ok (.ret u), ⟨v, H', os, bare, un, hok', rv, q⟩ =>
      have q' : v = .bl true := q
      subst q'
      have hu : u = Value.bool true := rv
      subst hu
      refine ⟨rfl, OldK.of_keep fun b o e => ?_, os, bare⟩
      cases z : H b with
      | none => exact un.keep b o e z (fun y => nomatch y) (fun y => nomatch y)
      | some t =>
        obtain ⟨rfl, rfl⟩ := hH b t z
        have z2 := un.frzs b _ _ z
        obtain ⟨e2, _⟩ := hok' b _ z2
        rw [ha] at e
        cases e
        exact e2
  cases hk : K.lookup a with
  | some o =>
    have e := KX a o hk
    rw [ha] at e
    cases e
    exact go (fun _ => none) (fun b u z => nomatch z) (fun u z => nomatch z) (.inr ⟨_, vs.toArray, _, hk, rfl, rfl, rfl, by rw [List.size_toArray, hi.length]; omega, by simpa using vals_ints hi⟩)
  | none =>
    refine go (fun b => if b = a then some (.frz { cls := .type "list", data := .seq vs.toArray } (.lst (ns.map V.int))) else none) (fun b u z => ?_) (fun _ _ => hk) (.inl ⟨_, if_pos rfl⟩)
    by_cases hb : b = a
    · rw [show (if b = a then some (HO.frz { cls := .type "list", data := .seq vs.toArray } (.lst (ns.map V.int))) else none) = _ from if_pos hb] at z
      cases z
      exact ⟨hb, rfl⟩
    · rw [show (if b = a then some (HO.frz { cls := .type "list", data := .seq vs.toArray } (.lst (ns.map V.int))) else none) = _ from if_neg hb] at z
      cases z
end
theorem walkG {l : PySem.W.OpenLaw} {n k : Nat} {q : Program} {loose : List Str} {XP : (Str → Option Value) → Heap → Prop} {YP : World → Heap → Prop} {d : DefRec} {x : Str}
    (hn : l.most = some n) (hn2 : n ≤ sizeLine) (hdf : d.params.defaults = []) (hr : Room k callerA)
    (F : ∀ (w : World) (mg : Str → Option Value) (fa : Addr) (h : Heap), YP w h → h.Ns mainGlobals mg → mg d.name = some (.ref fa) →
      ∃ (K : PySem.W.Frag) (fd : FuncData), K.In h ∧ (∀ (s : Shared) (u : Value), BindsTo s fd ⟨[u], []⟩ [(x, u)]) ∧ ∀ base : Heap, K.In base → base.Ns mainGlobals mg → FnG l.prog w K mg base k fa fd [x] (spTop n)) :
    PySem.W.WalkO q loose XP YP l.row.toRowW d [] (fun f vs => PySem.call f vs) := by
  refine Att.attach_call hn hdf fun w s₀ s₁ mg mb fa o pm cd doc a vs ns G Y _ _ _ hmg hobj hints hlen hg => ?_
  obtain ⟨K, fd, KX, hb, hF⟩ := F w mg fa _ Y G.T.g hmg
  exact topCall KX G.T.g G.T.b G.T.builtins G.T.nolimit hg hobj hints hlen hn2 hr hF hb
end Y

namespace Y
open PySem PySem.Spec PyProof.Rows L2

section
variable {X : Cx}
theorem RelKV.length {K : PySem.W.Frag} {m : Nat → Addr} {n : Nat} {H : Hp} : ∀ {es : List (EV × EV)} {vs : List (L2.Key × V)}, RelKV K m n H es vs → es.length = vs.length
  | [], _, r => by rw [RelKV] at r; subst r; rfl
  | _ :: _, _, r => by
    rw [RelKV] at r
    obtain ⟨k, v, l, rfl, _, _, r⟩ := r
    simp [RelKV.length r]
def lenE : LC := fun vs h P => match vs with
  | [.str s] => s.length ≤ sizeLine ∧ P (.int s.length) h
  | [.tup xs] => P (.int xs.length) h
  | [.ref r] => match h[r]? with
    | some (.lst xs) => P (.int xs.length) h
    | some (.frz xs) => P (.int xs.length) h
    | some (.dic xs) => P (.int xs.length) h
    | _ => False
  | _ => False
theorem lc_len : LCallR X (.builtin "len") lenE := by
  refine ⟨_, CallR.or call_len_str (CallR.or call_len_seq call_lenD), ?_⟩
  intro m h H vs xs P Q R r0 q k
  unfold lenE at q
  split at q
  · obtain ⟨v, rfl, r⟩ := r0.one_inv
    rw [RelE] at r
    subst r
    exact .inl ⟨_, rfl, by rw [S_len]; exact q.1, by rw [S_len]; exact k.same R q.2 (by rw [RelE])⟩
  · obtain ⟨v, rfl, r⟩ := r0.one_inv
    rw [RelE] at r
    obtain ⟨a, vs, rfl, hs, r⟩ := r
    exact .inr (.inl ⟨a, vs, rfl, .inr (SqT.of hs), by rw [← r.length]; exact k.same R q (by rw [RelE])⟩)
  · obtain ⟨v, rfl, r⟩ := r0.one_inv
    rw [RelE] at r
    obtain ⟨_, rfl⟩ := r
    split at q
    · rename_i e
      obtain ⟨vs, a, r⟩ := R.obj _ _ e
      exact .inr (.inl ⟨_, vs, rfl, .inl (SqL.of a), by rw [← r.length]; exact k.same R q (by rw [RelE])⟩)
    · rename_i e
      obtain ⟨vs, a, r⟩ := R.obj _ _ e
      exact .inr (.inl ⟨_, vs, rfl, .inl a.sql, by rw [← r.length]; exact k.same R q (by rw [RelE])⟩)
    · rename_i e
      obtain ⟨vs, a, r⟩ := R.obj _ _ e
      exact .inr (.inr ⟨_, vs, rfl, a, by rw [← r.length]; exact k.same R q (by rw [RelE])⟩)
    · exact q.elim
  · exact q.elim
def absE : LC := fun vs h P => match vs with
  | [.int i] => P (.int i.natAbs) h
  | _ => False
theorem lc_abs : LCallR X (.builtin "abs") absE := by
  refine ⟨_, call_abs, ?_⟩
  intro m h H vs xs P Q R r0 q k
  unfold absE at q
  split at q
  · obtain ⟨v, rfl, r⟩ := r0.one_inv
    rw [RelE] at r
    subst r
    rename_i i
    refine ⟨i, rfl, ?_⟩
    have e : (if i < 0 then -i else i) = (i.natAbs : Int) := by split <;> omega
    rw [e]
    exact k.same R q (by rw [RelE])
  · exact q.elim
def intOf : LC := fun vs h P => match vs with
  | [.int i] => P (.int i) h
  | [.bl b] => P (.int (if b then 1 else 0)) h
  | _ => False
theorem lc_int : LCallR X (.type "int") intOf := by
  refine ⟨_, call_int1, ?_⟩
  intro m h H vs xs P Q R r0 q k
  unfold intOf at q
  split at q
  · obtain ⟨v, rfl, r⟩ := r0.one_inv
    rw [RelE] at r
    subst r
    exact .inl ⟨_, rfl, k.same R q (by rw [RelE])⟩
  · obtain ⟨v, rfl, r⟩ := r0.one_inv
    rw [RelE] at r
    subst r
    exact .inr ⟨_, rfl, k.same R q (by rw [RelE])⟩
  · exact q.elim
theorem RelEs.ints {K : PySem.W.Frag} {m : Nat → Addr} {n : Nat} {H : Hp} : ∀ {ns : List Int} {vs : List V}, RelEs K m n H (ns.map EV.int) vs → vs = ns.map V.int
  | [], _, r => by rw [List.map_nil, RelEs] at r; exact r
  | i :: l, _, r => by
    rw [List.map_cons, RelEs] at r
    obtain ⟨v, t, rfl, a, b⟩ := r
    rw [RelE] at a
    rw [a, RelEs.ints b]; rfl
def maxE : LC := fun vs h P => match vs with
  | [.ref r] => match h[r]? with
    | some (.lst xs) => ∃ ns : List Int, xs = ns.map EV.int ∧ ns ≠ [] ∧ ∀ m, m ∈ ns → (∀ y ∈ ns, y ≤ m) → P (.int m) h
    | _ => False
  | [.int i, .int j] => P (.int (if j > i then j else i)) h
  | _ => False
theorem lc_max (hc : X.calm = true) : LCallR X (.builtin "max") maxE := by
  refine ⟨_, CallR.or (cr_max hc) (call_max2 hc), ?_⟩
  intro m h H vs xs P Q R r0 q k
  unfold maxE at q
  split at q
  · obtain ⟨v, rfl, r⟩ := r0.one_inv
    rw [RelE] at r
    obtain ⟨_, rfl⟩ := r
    split at q
    · rename_i e
      obtain ⟨vs, a, r⟩ := R.obj _ _ e
      obtain ⟨ns, rfl, ne, q⟩ := q
      have := r.ints
      subst this
      exact .inl ⟨_, ns, rfl, SqL.of a, List.length_pos_iff.mpr ne, fun z h1 h2 => k.same R (q z h1 h2) (by rw [RelE])⟩
    · exact q.elim
  · obtain ⟨v, w, rfl, r1, r2⟩ := r0.two_inv
    rw [RelE] at r1
    rw [RelE] at r2
    subst r1 r2
    exact .inr ⟨_, _, rfl, k.same R q (by rw [RelE])⟩
  · exact q.elim
def reprE : LC := fun vs h P => match vs with
  | [v] => ∃ d, Dat h 60 v d ∧ d.showable = true ∧ d.shown.length ≤ sizeLine ∧ P (.str d.shown.cps.toList) h
  | _ => False
def rRepr (K : PySem.W.Frag) : List V → Hp → VK → Prop := fun xs H Q => ∃ x d, xs = [x] ∧ Dp K H x d ∧ d.depth ≤ 60 ∧ d.plain = true ∧ d.showable = true ∧ d.shown.length ≤ sizeLine ∧ Q (.str d.shown) H
mutual
theorem plain_noDict : ∀ d : PyData, d.plain = true → d.hasDict = false
  | .none, _ => by simp only [PyData.hasDict]
  | .bool _, _ => by simp only [PyData.hasDict]
  | .int _, _ => by simp only [PyData.hasDict]
  | .str _, _ => by simp only [PyData.hasDict]
  | .list xs, h => by simp only [PyData.hasDict]; exact plain_noDicts xs (by simpa [PyData.plain] using h)
  | .tuple xs, h => by simp only [PyData.hasDict]; exact plain_noDicts xs (by simpa [PyData.plain] using h)
  | .dict _, h => by simp [PyData.plain] at h
theorem plain_noDicts : ∀ ds : List PyData, PyData.plainAll ds = true → PyData.hasDictAll ds = false
  | [], _ => by simp only [PyData.hasDictAll]
  | d :: ds, h => by
    have h' : d.plain = true ∧ PyData.plainAll ds = true := by simpa [PyData.plainAll] using h
    simp only [PyData.hasDictAll, plain_noDict d h'.1, plain_noDicts ds h'.2, Bool.or_self]
end
theorem call_reprD (hG : X.A.guards = some []) (hu : X.A.units + 64 < cLine) : CallR X (.builtin "repr") (rRepr X.K) := by
  intro pins s σ H xs us Q I r q
  obtain ⟨x, d, rfl, hd, dd, pd, sd, zd, q⟩ := q
  obtain ⟨u, rfl, ru⟩ := vals1 r
  cases hd with
  | non =>
    cases ru
    simp only [PyData.shown] at q
    exact PySem.P.repr_of_none ⟨.str _, H, I.tok _, ⟨_, rfl⟩, q⟩
  | bl b =>
    cases ru
    simp only [PyData.shown] at q
    exact PySem.P.repr_of_bool ⟨.str _, H, I.tok _, ⟨_, rfl⟩, q⟩
  | int i =>
    obtain ⟨t, rfl⟩ := ru
    simp only [PyData.shown] at q
    exact PySem.P.repr_of_int (by simpa [PyData.showable] using sd) ⟨.str _, H, I.tok _, ⟨_, rfl⟩, q⟩
  | str z =>
    obtain ⟨t, rfl⟩ := ru
    simp only [PyData.shown] at q zd
    exact PySem.P.repr_of_str ⟨.str _, H, I.tok _, ⟨_, rfl⟩, q⟩ zd
  | lst hs ha =>
    cases ru
    obtain ⟨as, rd⟩ := Dp.reads I _ _ _ (.lst hs ha) rfl
    exact PySem.repr_of_reads' rd sd (fun z => by rw [plain_noDict _ pd] at z; cases z) hG (by omega) (fun _ _ e => e) (fun h' u tk kk => ⟨.str _, H, I.kept kk, ⟨_, rfl⟩, q⟩) zd
  | tup hs ha =>
    cases ru
    obtain ⟨as, rd⟩ := Dp.reads I _ _ _ (.tup hs ha) rfl
    exact PySem.repr_of_reads' rd sd (fun z => by rw [plain_noDict _ pd] at z; cases z) hG (by omega) (fun _ _ e => e) (fun h' u tk kk => ⟨.str _, H, I.kept kk, ⟨_, rfl⟩, q⟩) zd
def tupleOf : LC := fun vs h P => match vs with
  | [.tup xs] => P (.tup xs) h
  | [.ref r] => match h[r]? with
    | some (.lst xs) => P (.tup xs) h
    | some (.frz xs) => P (.tup xs) h
    | _ => False
  | _ => False
theorem lc_tuple : LCallR X (.type "tuple") tupleOf := by
  refine ⟨_, call_tuple_of, ?_⟩
  intro m h H vs xs P Q R r0 q k
  unfold tupleOf at q
  split at q
  · obtain ⟨v, rfl, r⟩ := r0.one_inv
    have r0 := r
    rw [RelE] at r
    obtain ⟨a, vs, rfl, hs, r⟩ := r
    exact ⟨a, vs, rfl, .inr ⟨(SqT.of hs), k.same R q r0⟩⟩
  · obtain ⟨v, rfl, r⟩ := r0.one_inv
    rw [RelE] at r
    obtain ⟨_, rfl⟩ := r
    split at q
    · rename_i e
      obtain ⟨vs, a, r⟩ := R.obj _ _ e
      exact ⟨_, vs, rfl, .inl ⟨SqL.of a, fun l hl => k.tup R q r hl⟩⟩
    · rename_i e
      obtain ⟨vs, a, r⟩ := R.obj _ _ e
      exact ⟨_, vs, rfl, .inl ⟨a.sql, fun l hl => k.tup R q r hl⟩⟩
    · exact q.elim
  · exact q.elim
end
def onList (v : EV) (h : EH) (f : Nat → List EV → Prop) : Prop := match v with
  | .ref r => match h[r]? with
    | some (.lst xs) => f r xs
    | _ => False
  | _ => False
section
variable {X : Cx}
theorem onList_sim {K : PySem.W.Frag} {m : Nat → Addr} {h : EH} {H : Hp} {v : EV} {x : V} {f : Nat → List EV → Prop} (R : RelH K m h H) (r : RelE K m h.length H v x) (q : onList v h f) : ∃ i xs vs, h[i]? = some (.lst xs) ∧ x = .ref (m i) ∧ H (m i) = some (.lst vs) ∧ RelEs K m h.length H xs vs ∧ f i xs := by
  unfold onList at q
  split at q
  · rw [RelE] at r
    obtain ⟨_, rfl⟩ := r
    split at q
    · rename_i e
      obtain ⟨vs, a, r⟩ := R.obj _ _ e
      exact ⟨_, _, vs, e, rfl, a, r, q⟩
    · exact q.elim
  · exact q.elim
theorem Kon.upd {K : PySem.W.Frag} {m : Nat → Addr} {H : Hp} {h : EH} {P : EK} {Q : VK} (k : Kon K m h.length H P Q) (R : RelH K m h H) {i : Nat} {xs ys : List EV} {us : List V} {v : EV} {x : V} (e : h[i]? = some (.lst xs)) (p : P v (h.set i (.lst ys))) (r : RelE K m h.length H v x) (ru : RelEs K m h.length H ys us) : Q x (upd H (m i) (.lst us)) := by
  have E : Ex K m h.length H m (h.set i (.lst ys)).length (L2.upd H (m i) (.lst us)) := Ex.write R e
  exact k _ _ p m _ _ E (R.write e ⟨us, upd_same, RelEs.ex E _ _ ru⟩) (RelE.ex E _ _ r)
def appendE : LM := fun v vs h P => match vs with
  | [y] => onList v h fun r xs => xs.length < sizeLine ∧ P .non (h.set r (.lst (xs ++ [y])))
  | _ => False
theorem lm_append {K : PySem.W.Frag} : LMl K "list" rAppend appendE := by
  intro m h H v x vs xs P Q R rx rv q k
  unfold appendE at q
  split at q
  · obtain ⟨y, rfl, ry⟩ := rv.one_inv
    obtain ⟨i, es, us, e, rfl, a, r, q⟩ := onList_sim R rx q
    exact ⟨_, us, y, rfl, rfl, a, by rw [← r.length]; exact q.1, k.upd R e q.2 (by rw [RelE]) (r.app (.one ry))⟩
  · exact q.elim
def insertE : LM := fun v vs h P => match vs with
  | [.int i, y] => onList v h fun r xs => xs.length < sizeLine ∧ 0 ≤ i ∧ i < 2 ^ 63 ∧ P .non (h.set r (.lst (xs.take i.toNat ++ [y] ++ xs.drop i.toNat)))
  | _ => False
theorem lm_insert {K : PySem.W.Frag} : LMl K "list" (fun x vs H Q => ∃ (l : Addr) (xs : List V) (i : Int) (y : V), x = .ref l ∧ vs = [.int i, y] ∧ H l = some (.lst xs) ∧ xs.length < sizeLine ∧ 0 ≤ i ∧ i < 2 ^ 63 ∧
    Q .non (upd H l (.lst (xs.take i.toNat ++ [y] ++ xs.drop i.toNat)))) insertE := by
  intro m h H v x vs xs P Q R rx rv q k
  unfold insertE at q
  split at q
  · obtain ⟨z, y, rfl, rz, ry⟩ := rv.two_inv
    rw [RelE] at rz
    subst rz
    obtain ⟨i, es, us, e, rfl, a, r, q⟩ := onList_sim R rx q
    exact ⟨_, us, _, y, rfl, rfl, a, by rw [← r.length]; exact q.1, q.2.1, q.2.2.1, k.upd R e q.2.2.2 (by rw [RelE]) (((r.take _).app (.one ry)).app (r.drop _))⟩
  · exact q.elim
def repN {α : Type} (k : Int) (xs : List α) : List α := (List.replicate k.toNat xs).flatten
def mulE : LO := fun v w h P => match v, w with
  | .int i, .int j => PySem.IntMulOk i j ∧ P (.int (i * j)) h
  | .str s, .int k => (0 < k ∧ k < 2 ^ 24 ∧ s.length * k.toNat ≤ 1000000) ∧ P (.str (repN k s)) h
  | .tup xs, .int k => (xs ≠ [] ∧ 2 ≤ k ∧ k ≤ 1000 ∧ xs.length ≤ 1000) ∧ P (.tup (repN k xs)) h
  | .ref r, .int k => match h[r]? with
    | some (.lst xs) => (-(2 ^ 63) ≤ k ∧ k < 2 ^ 63 ∧ xs.length * k.toNat ≤ sizeLine) ∧ P (.ref h.length) (h ++ [.lst (repN k xs)])
    | _ => False
  | _, _ => False
theorem foldl_rep (x : Array Nat) : ∀ (k : Nat) (a : Array Nat), (List.replicate k x).foldl (· ++ ·) a = a ++ (List.replicate k x.toList).flatten.toArray
  | 0, a => by simp
  | k + 1, a => by
    rw [List.replicate_succ, List.foldl_cons, foldl_rep x k, List.replicate_succ, List.flatten_cons]
    apply Array.ext'
    simp
def rMulS : R2 := fun x y H Q => ∃ (s : List Nat) (k : Int), x = .str (S s) ∧ y = .int k ∧ (0 < k ∧ k < 2 ^ 24 ∧ s.length * k.toNat ≤ 1000000) ∧ Q (.str (S (repN k s))) H
theorem op_mulS : OpR X (binaryOp .Mult) rMulS := by
  intro pins s σ H x y v u Q I rx ry q
  obtain ⟨l, k, rfl, rfl, ⟨h0, h1, hz⟩, q⟩ := q
  obtain ⟨t, rfl⟩ := rx
  obtain ⟨t', rfl⟩ := ry
  have e : (S l).length = l.length := S_len l
  have fin : ∀ tk, EP X pins σ Q (.str (S (repN k l)) tk) { s with toks := tk + 1 } := fun tk => ⟨.str _, H, I.tok _, ⟨_, rfl⟩, q⟩
  refine PySem.P.mul_str ?_ (fun _ _ z => ?_) (fun _ _ => ?_) ?_
  · have a : ¬ k < -(2 ^ 63 : Int) := by omega
    have b : ¬ k ≥ 2 ^ 63 := by omega
    rw [decide_eq_false a, decide_eq_false b]; rfl
  · rw [e] at z
    have h2 : (l.length : Int) * k ≤ 1000000 := by
      have : ((l.length * k.toNat : Nat) : Int) ≤ 1000000 := by omega
      rw [Int.natCast_mul, Int.toNat_of_nonneg (by omega)] at this
      exact this
    have h3 : (l.length : Int) ≤ 1000000 := by
      have : (l.length : Int) * 1 ≤ (l.length : Int) * k := Int.mul_le_mul_of_nonneg_left (by omega) (by omega)
      omega
    have h4 : (2 ^ 63 - 1 : Int) / k ≥ (2 ^ 63 - 1 : Int) / 2 ^ 24 := by
      rw [ge_iff_le, Int.le_ediv_iff_mul_le (by omega)]
      have : (2 ^ 63 - 1 : Int) / 2 ^ 24 * k ≤ (2 ^ 63 - 1 : Int) / 2 ^ 24 * 2 ^ 24 := Int.mul_le_mul_of_nonneg_left (by omega) (by decide)
      have h5 : (2 ^ 63 - 1 : Int) / 2 ^ 24 * 2 ^ 24 ≤ 2 ^ 63 - 1 := by decide
      omega
    have h6 : (2 ^ 63 - 1 : Int) / 2 ^ 24 = 549755813887 := by decide
    omega
  · rw [e]
    unfold Builtin.Str.tooLong
    have : sizeLine = 16777216 := by decide
    rw [decide_eq_false]
    omega
  · rw [if_neg (by omega)]
    by_cases hk : (k == 1 || (S l).length == 0) = true
    · rw [if_pos hk]
      have e2 : repN k l = l := by
        rw [e, Bool.or_eq_true, beq_iff_eq, beq_iff_eq] at hk
        rcases hk with rfl | hk
        · simp [repN]
        · have : l = [] := List.length_eq_zero_iff.mp hk
          subst this
          simp [repN]
      rw [e2] at q
      exact ⟨.str _, H, I, ⟨_, rfl⟩, q⟩
    · rw [if_neg hk]
      have e2 : (⟨(List.replicate k.toNat (S l).cps).foldl (· ++ ·) #[]⟩ : Str) = S (repN k l) := by
        rw [foldl_rep]
        simp [repN]
      rw [e2]
      exact ⟨by
        have e3 : (S (repN k l)).length = l.length * k.toNat := by
          rw [S_len, repN, List.length_flatten, List.map_replicate, List.sum_replicate_nat]
          exact Nat.mul_comm _ _
        rw [e3]
        have : sizeLine = 16777216 := by decide
        omega, fin _⟩
theorem op_mulO : OpR X (binaryOp .Mult) (rI PySem.IntMulOk fun i j => .int (i * j)) := opI fun _ _ _ _ _ _ _ hc q => mul_int q hc
theorem lo_mul : LOpR X (binaryOp .Mult) mulE := by
  refine ⟨_, OpR.or op_mulO (OpR.or op_mulS (OpR.or op_repT op_rep)), ?_⟩
  intro m h H v w x y P Q R rx ry q k
  unfold mulE at q
  split at q
  · rw [RelE] at rx
    rw [RelE] at ry
    exact .inl ⟨_, _, rx, ry, q.1, k.same R q.2 (by rw [RelE])⟩
  · rw [RelE] at rx
    rw [RelE] at ry
    exact .inr (.inl ⟨_, _, rx, ry, q.1, k.same R q.2 (by rw [RelE])⟩)
  · rw [RelE] at rx
    rw [RelE] at ry
    obtain ⟨a, us, rfl, hs, r⟩ := rx
    subst ry
    refine .inr (.inr (.inl ⟨a, _, us, rfl, rfl, (SqT.of hs), ?_, q.1.2.1, q.1.2.2.1, by rw [← r.length]; exact q.1.2.2.2, fun p hp => k.tup R q.2 ?_ hp⟩))
    · rintro rfl
      have := r.length
      exact q.1.1 (List.length_eq_zero_iff.mp this)
    · unfold repN
      generalize Int.toNat _ = n
      induction n with
      | zero => exact .nil
      | succ n ih => rw [List.replicate_succ, List.replicate_succ, List.flatten_cons, List.flatten_cons]; exact r.app ih
  · rw [RelE] at rx
    rw [RelE] at ry
    obtain ⟨_, rfl⟩ := rx
    subst ry
    split at q
    · rename_i e
      obtain ⟨us, a, r⟩ := R.obj _ _ e
      refine .inr (.inr (.inr ⟨_, _, us, rfl, rfl, a, q.1.1, q.1.2.1, by rw [← r.length]; exact q.1.2.2, fun p hp => k.lst R q.2 ?_ hp⟩))
      unfold repN
      generalize Int.toNat _ = n
      induction n with
      | zero => exact .nil
      | succ n ih => rw [List.replicate_succ, List.replicate_succ, List.flatten_cons, List.flatten_cons]; exact r.app ih
    · exact q.elim
  · exact q.elim
theorem lookup_mem {α β : Type} [BEq α] [LawfulBEq α] {l : List (α × β)} {a : α} {b : β} (h : l.lookup a = some b) : (a, b) ∈ l := by
  induction l with
  | nil => cases h
  | cons p l ih =>
    obtain ⟨x, y⟩ := p
    rw [List.lookup_cons] at h
    cases e : a == x with
    | true =>
      rw [e] at h
      cases h
      rw [beq_iff_eq.mp e]
      exact List.mem_cons_self
    | false =>
      rw [e] at h
      exact List.mem_cons_of_mem _ (ih h)
end
end Y

namespace Y
open PySem PySem.Spec PyProof.Rows L2

inductive Sc where
  | lst (a : Addr) | tup (a : Addr) | txt (x : Str)
def Sc.val : Sc → V
  | .lst a => .ref a
  | .tup a => .ref a
  | .txt x => .str x
def Sc.is (K : PySem.W.Frag) (H : Hp) : Sc → List V → Prop
  | .lst a, xs => SqL K H a xs
  | .tup a, xs => SqT K H a xs
  | .txt x, xs => xs = x.cps.toList.map fun c => V.str ⟨#[c]⟩
def Sc.cell : Sc → List Addr
  | .lst a => [a]
  | .tup a => [a]
  | .txt _ => []
def Sc.st (it : Addr) (i : Nat) (h : Heap) : Sc → Prop
  | .lst a => h.IsListIter it a i
  | .tup a => h.IsTupleIter it a i
  | .txt x => ∃ t, h.IsStrIter it (strIterType x) x t i
theorem Sc.st_obj {it : Addr} {i : Nat} {h : Heap} : ∀ {sc : Sc}, sc.st it i h → ∃ o, h.get? it = some o ∧ ∀ v, o.data ≠ .cell v
  | .lst _, ⟨o, e, _, d⟩ => ⟨o, e, fun v q => by rw [d] at q; cases q⟩
  | .tup _, ⟨o, e, _, d⟩ => ⟨o, e, fun v q => by rw [d] at q; cases q⟩
  | .txt _, ⟨t, o, e, _, d⟩ => ⟨o, e, fun v q => by rw [d] at q; cases q⟩
theorem Sc.st_at {it : Addr} {i : Nat} {h h' : Heap} (k : ∀ o, h.get? it = some o → h'.get? it = some o) : ∀ {sc : Sc}, sc.st it i h → sc.st it i h'
  | .lst _, ⟨o, e, r⟩ => ⟨o, k o e, r⟩
  | .tup _, ⟨o, e, r⟩ => ⟨o, k o e, r⟩
  | .txt _, ⟨t, o, e, r⟩ => ⟨t, o, k o e, r⟩
section
variable {X : Cx} {pins : List (Addr × Obj)} {s : Shared} {σ : L2.St} {H : Hp}
theorem Vals.back {xs : List V} {us : List Value} {i : Nat} {u : Value} (r : Vals xs us) (e : us[i]? = some u) : ∃ x, xs[i]? = some x ∧ RelV x u := by
  have hl := (List.getElem?_eq_some_iff.mp e).1
  have l := r.length
  have h2 : xs[i]? = some xs[i] := List.getElem?_eq_getElem (by omega)
  obtain ⟨w, hw, rw'⟩ := r.get h2
  rw [e] at hw
  cases hw
  exact ⟨_, h2, rw'⟩
theorem Sc.draws {sc : Sc} {xs : List V} {it : Addr} {i : Nat} (I : Inv X pins σ H s) (hc : X.calm = true) (hq : sc.is X.K H xs) (hn : it ∉ sc.cell) (st : sc.st it i s.heap) :
    ∃ P St, Draws X.prog X.w X.A.in1 it (it :: sc.cell) xs.length P St ∧ St i s.heap ∧ (∀ j u, P j u → ∃ v, xs[j]? = some v ∧ RelV v u) ∧ ∀ j h, St j h → sc.st it j h := by
  have hh : X.A.in1.handled = none := I.ok.hd hc
  match sc, hq, hn, st with
  | .lst a, hq, hn, st =>
    obtain ⟨its, rv, p, hz⟩ := I.list hq
    rw [show xs.length = its.toArray.size by simpa using rv.length]
    exact ⟨_, _, Draws.list hh it a (fun z => hn (by simp [Sc.cell, z])) its.toArray, ⟨st, p.isList⟩, fun j u e => Vals.back rv (by simpa using e), fun j h e => e.1⟩
  | .tup a, hq, hn, st =>
    obtain ⟨its, rv, p, hz⟩ := I.tuple hq
    rw [show xs.length = its.toArray.size by simpa using rv.length]
    exact ⟨_, _, Draws.tuple hh it a (fun z => hn (by simp [Sc.cell, z])) its.toArray, ⟨st, p⟩, fun j u e => Vals.back rv (by simpa using e), fun j h e => e.1⟩
  | .txt x, hq, hn, ⟨t, st⟩ =>
    have hq' : xs = x.cps.toList.map fun c => V.str ⟨#[c]⟩ := hq
    subst hq'
    rw [show (x.cps.toList.map fun c => V.str ⟨#[c]⟩).length = x.cps.size by simp]
    exact ⟨_, _, Draws.text hh it x t, st, fun j u ⟨c, t', e, eu⟩ => ⟨_, by rw [List.getElem?_map, Array.getElem?_toList, e]; rfl, show RelV (.str ⟨#[c]⟩) u from ⟨t', eu⟩⟩, fun j h e => ⟨t, e⟩⟩
theorem Sc.is_inj {sc : Sc} {xs ys : List V} (I : Inv X pins σ H s) (h : sc.is X.K H xs) (h' : sc.is X.K H ys) : xs = ys := by
  match sc, h, h' with
  | .lst a, h, h' => exact I.list_inj h h'
  | .tup a, h, h' => exact I.tuple_inj h h'
  | .txt a, h, h' => exact Eq.trans h (Eq.symm h')
end
def ItN (K : PySem.W.Frag) (a : Sc) (k : Int) : It :=
  ⟨fun i H => ∃ (xs : List V) (x : V), a.is K H xs ∧ xs[i]? = some x,
    fun i H v H' => ∃ T x, v = .ref T ∧ H T = none ∧ H' = upd H T (.tup [.int (k + (i : Nat)), x]) ∧ ∀ xs, a.is K H xs → xs[i]? = some x,
    fun i H => ∃ xs : List V, a.is K H xs ∧ i = xs.length⟩
section
variable {P : Program} {w : World} {K : PySem.W.Frag} {elts : List Expr} {kk : Nat} {tpos : Pos}
theorem turnN {a : Sc} {k : Int} {e it : Addr} (hne : e ≠ it) (hef : e ∉ it :: a.cell) (na : it ∉ a.cell) :
    Turn P w K (.Tuple elts kk tpos) (ItN K a k) [e, it] e (fun i h => (∃ old, IsEnum h e it (k + ((i : Nat) : Int)) old) ∧ a.st it i h) where
  mem := by simp
  obj := fun i h st b hb => by
    obtain ⟨⟨old, he⟩, s1⟩ := st
    have e' : b = e ∨ b = it := by simpa using hb
    rcases e' with z | z
    · rw [z]; exact ⟨_, he, fun v q => nomatch q⟩
    · rw [z]; exact Sc.st_obj s1
  keep := fun i h h' st k => let ⟨⟨old, he⟩, hi⟩ := st; ⟨⟨old, k e (by simp) _ he⟩, Sc.st_at (fun o q => k it (by simp) o q) hi⟩
  item := by
    intro X hP hw hK hc i pins s σ H E I hf st hg
    subst hP hw hK
    obtain ⟨⟨old, he⟩, s1⟩ := st
    obtain ⟨xs, x, hq, hx⟩ := hg
    obtain ⟨P1, St1, D1, t1, p1, b1⟩ := Sc.draws I hc hq na s1
    have lx := (List.getElem?_eq_some_iff.mp hx).1
    have hel : e < s.heap.objs.size := Heap.lt_size he
    refine wpAny_pyNext_enum_itemC D1 he t1 lx hne hef fun u h' tk hu ho t1' hT hsz hk => ?_
    obtain ⟨x', hx', ru⟩ := p1 _ _ hu
    rw [hx] at hx'
    cases hx'
    refine ⟨_, rfl, wpAny_letOwnedTupleGo_enum (s := { s with heap := h', toks := tk + 1 }) ho fun h'' he' sb => ?_⟩
    have hT2 : h''.get? s.heap.objs.size = some { cls := .type "tuple", data := .seq #[.int (k + (i : Nat)) tk, u] } := (sb.2 _ (Nat.ne_of_gt hel)).trans hT
    have new : ObjOk X.prog X.w (upd H s.heap.objs.size (.tup [.int (k + (i : Nat)), x])) h'' s.heap.objs.size (.tup [.int (k + (i : Nat)), x]) :=
      ⟨by show 2 ≤ sizeLine; decide, [.int (k + (i : Nat)) tk, u], .cons ⟨_, rfl⟩ (.cons ru .nil), ⟨_, hT2, rfl, _, rfl⟩⟩
    have I1 : Inv X pins σ (upd H s.heap.objs.size (.tup [.int (k + (i : Nat)), x])) { s with heap := h'', toks := tk + 1 } :=
      I.turnedNew (ch := [e, it]) (fun b ob hb q => (sb.2 b (fun z => hb (by simp [z]))).trans (hk b ob (fun z => hb (by simp [z])) (fun z => hb (by simp [z])) q)) hf (Nat.le_refl _) new
    refine ⟨.ref s.heap.objs.size, _, I1, rfl, ⟨_, x, rfl, I.hok.fresh (Nat.le_refl _), rfl, fun ys hy => by rw [Sc.is_inj I hy hq]; exact hx⟩, ⟨⟨u, ?_⟩, Sc.st_at (fun o q => (sb.2 it (Ne.symm hne)).trans q) (b1 _ _ t1')⟩, fun b hb => ?_⟩
    · have e1 : k + ((i + 1 : Nat) : Int) = k + (i : Int) + 1 := by omega
      rw [e1]; exact he'
    · have hb' : b < s.heap.objs.size := by
        have e' : b = e ∨ b = it := by simpa using hb
        rcases e' with z | z
        · rw [z]; exact hel
        · rw [z]; obtain ⟨_, e1, _⟩ := Sc.st_obj s1; exact Heap.lt_size e1
      rw [upd_ne (Nat.ne_of_lt hb')]
      exact (hf b hb).1
  done := by
    intro X hP hw hK hc i pins s σ H E I hf st hg
    subst hP hw hK
    obtain ⟨⟨old, he⟩, s1⟩ := st
    obtain ⟨xs, hq, hx⟩ := hg
    obtain ⟨P1, St1, D1, t1, p1, b1⟩ := Sc.draws I hc hq na s1
    subst hx
    obtain ⟨f0, f1, f2, f3, f4, f5⟩ := hf it (by simp)
    exact wpAny_pyNext_enum_endD D1 he t1 fun h' eb => ⟨rfl, I.turned (t' := s.toks) (fun b o hb q => eb b o hb q) f0 f1 f3 f4 f5⟩
  self := fun A i s Q E st h => let ⟨⟨_, he⟩, _⟩ := st; wpAny_pyIter_enum he h
end
section
variable {X : Cx} {e e2 : Expr} {ta : TA} {p pos tpos : Pos} {elts : List Expr} {kk : Nat}
end
def srcE (v : EV) (h : EH) (P : (EH → Prop) → List EV → Prop) : Prop := match v with
  | .ref r => match h[r]? with
    | some (.lst xs) => P (fun h' => h'[r]? = some (.lst xs)) xs
    | some (.frz xs) => P (fun h' => h'[r]? = some (.frz xs)) xs
    | _ => False
  | .tup xs => P lTrue xs
  | .str s => P lTrue (s.map fun c => .str [c])
  | _ => False
theorem src_sim {K : PySem.W.Frag} {m : Nat → Addr} {h : EH} {H : Hp} {v : EV} {x : V} {P : (EH → Prop) → List EV → Prop} (R : RelH K m h H) (r : RelE K m h.length H v x) (q : srcE v h P) :
    ∃ (sc : Sc) (g : EH → Prop) (xs : List EV), P g xs ∧ x = sc.val ∧ g h ∧
      ∀ m' h' H', Ex K m h.length H m' h'.length H' → RelH K m' h' H' → g h' → ∃ us, sc.is K H' us ∧ RelEs K m' h'.length H' xs us := by
  unfold srcE at q
  split at q
  · rename_i r0
    rw [RelE] at r
    obtain ⟨hr, rfl⟩ := r
    split at q
    · rename_i xs e
      refine ⟨.lst (m r0), _, xs, q, rfl, e, fun m' h' H' E' R' gh => ?_⟩
      obtain ⟨us, a', r'⟩ := R'.obj _ _ gh
      exact ⟨us, by rw [← E'.eq _ hr]; exact SqL.of a', r'⟩
    · rename_i xs e
      refine ⟨.lst (m r0), _, xs, q, rfl, e, fun m' h' H' E' R' gh => ?_⟩
      obtain ⟨us, a', r'⟩ := R'.obj _ _ gh
      exact ⟨us, by rw [← E'.eq _ hr]; exact a'.sql, r'⟩
    · exact q.elim
  · rename_i xs
    rw [RelE] at r
    obtain ⟨a, vs, rfl, hs, r2⟩ := r
    exact ⟨.tup a, _, xs, q, rfl, trivial, fun m' h' H' E' R' gh => ⟨vs, E'.tup _ _ (SqT.of hs), RelEs.ex E' _ _ r2⟩⟩
  · rename_i cs
    rw [RelE] at r
    subst r
    refine ⟨.txt (S cs), _, _, q, rfl, trivial, fun m' h' H' E' R' gh => ⟨_, rfl, ?_⟩⟩
    show RelEs K m' h'.length H' (cs.map fun c => EV.str [c]) (cs.toArray.toList.map fun c => V.str ⟨#[c]⟩)
    rw [List.toList_toArray]
    clear q
    induction cs with
    | nil => exact .nil
    | cons c cs ih => exact .cons (by rw [RelE]) ih
  · exact q.elim
def lZip (ta : LA) : LI := fun env h P => ta env h fun vs h1 => match vs with
  | [x, y] => srcE x h1 fun g xs => srcE y h1 fun g2 ys => P (fun h' => g h' ∧ g2 h') (List.zipWith (fun a b => EV.tup [a, b]) xs ys) h1
  | _ => False
theorem rel_pair {K : PySem.W.Frag} {m : Nat → Addr} {h : EH} {H : Hp} {a b : EV} {x y : V} {T : Addr} (R : RelH K m h H) (hT : H T = none) (r1 : RelE K m h.length H a x) (r2 : RelE K m h.length H b y) :
    Ex K m h.length H m h.length (upd H T (.tup [x, y])) ∧ RelH K m h (upd H T (.tup [x, y])) ∧ RelE K m h.length (upd H T (.tup [x, y])) (.tup [a, b]) (.ref T) := by
  have E : Ex K m h.length H m h.length (upd H T (.tup [x, y])) := Ex.tup1 hT
  refine ⟨E, R.tup hT, ?_⟩
  rw [RelE]
  exact ⟨T, [x, y], rfl, upd_same, .cons (RelE.ex E _ _ r1) (.one (RelE.ex E _ _ r2))⟩
theorem zw_at {α β γ : Type} {f : α → β → γ} {xs : List α} {ys : List β} {i : Nat} {z : γ} (e : (List.zipWith f xs ys)[i]? = some z) : ∃ a b, xs[i]? = some a ∧ ys[i]? = some b ∧ z = f a b := by
  rw [List.getElem?_zipWith] at e
  split at e
  · rename_i a b ha hb
    cases e
    exact ⟨a, b, ha, hb, rfl⟩
  · cases e
section
variable {X : Cx} {e e2 : Expr} {ta : LA} {p pos tpos : Pos} {elts : List Expr} {kk : Nat}
end
end Y

namespace Y
open PySem PySem.Spec PyProof.Rows L2

def lNeg (ta : LT) : LT := fun env h P => ta env h fun v h1 => match v with
  | .int i => P (.int (-i)) h1
  | _ => False
theorem loop_ind {g : EH → Prop} {p : Pat} {tb : LS} {D : LEnds} (I : List EV → En → EH → Prop)
    (stop : ∀ env h, I [] env h → g h ∧ D.nx env h)
    (turn : ∀ x xs env h (k : En → EH → Prop), I (x :: xs) env h → (∀ env' h', I xs env' h' → k env' h') → g h ∧ lBind h p x env fun env2 => tb { D with nx := k, ct := k, bk := D.nx } env2 h) :
    ∀ xs env h, I xs env h → loopE g p tb D xs env h
  | [], env, h, i => by rw [loopE]; exact stop env h i
  | x :: xs, env, h, i => by rw [loopE]; exact turn x xs env h _ i fun env' h' i' => loop_ind I stop turn xs env' h' i'
theorem lc_ind {g : EH → Prop} {p : Pat} {tt : LTt} {te : LT} {d : Nat} {env : En} {P : EK} (I : List EV → List EV → EH → Prop)
    (stop : ∀ acc h, I [] acc h → h[d]? = some (.lst acc) → g h ∧ P (.ref d) h)
    (turn : ∀ x xs acc h (ky : EK) (kn : EH → Prop), I (x :: xs) acc h → h[d]? = some (.lst acc) →
      (∀ y h', h'[d]? = some (.lst acc) → acc.length < sizeLine → I xs (acc ++ [y]) (h'.set d (.lst (acc ++ [y]))) → ky y h') → (∀ h', h'[d]? = some (.lst acc) → I xs acc h' → kn h') →
      g h ∧ lBind h p x env fun env2 => tt env2 h fun b h3 => if b = true then te env2 h3 ky else kn h3) :
    ∀ xs acc h, h[d]? = some (.lst acc) → I xs acc h → lcE g p tt te d env P xs h
  | [], acc, h, e, i => by rw [lcE]; exact stop acc h i e
  | x :: xs, acc, h, e, i => by
    rw [lcE]
    refine turn x xs acc h _ _ i e (fun y h' e' hl i' => ?_) fun h' e' i' => lc_ind I stop turn xs acc h' e' i'
    rw [e']
    refine ⟨hl, lc_ind I stop turn xs _ _ ?_ i'⟩
    exact List.getElem?_set_self (List.getElem?_eq_some_iff.mp e').1
theorem new_at {h : EH} {o : EO} : (h ++ [o])[h.length]? = some o := by simp
theorem new_set {h : EH} {o u : EO} : (h ++ [o]).set h.length u = h ++ [u] := by simp
theorem lc_plain {g : EH → Prop} {p : Pat} {tt : LTt} {te : LT} {env : En} {P : EK} {h : EH} (f : EV → Option EV) (xs : List EV) (hl : xs.length ≤ sizeLine) (hg : ∀ acc, g (h ++ [.lst acc]))
    (step : ∀ x ∈ xs, ∀ acc (ky : EK) (kn : EH → Prop), (∀ y, f x = some y → ky y (h ++ [.lst acc])) → (f x = none → kn (h ++ [.lst acc])) →
      lBind (h ++ [.lst acc]) p x env fun env2 => tt env2 (h ++ [.lst acc]) fun b h3 => if b = true then te env2 h3 ky else kn h3)
    (fin : P (.ref h.length) (h ++ [.lst (xs.filterMap f)])) : lcE g p tt te h.length env P xs (h ++ [.lst []]) := by
  have key : ∀ ys acc, (∀ x ∈ ys, x ∈ xs) → acc.length + ys.length ≤ xs.length → acc ++ ys.filterMap f = xs.filterMap f → lcE g p tt te h.length env P ys (h ++ [.lst acc]) := by
    intro ys
    induction ys with
    | nil =>
      intro acc _ _ e
      rw [lcE]
      rw [List.filterMap_nil, List.append_nil] at e
      exact ⟨hg _, by rw [e]; exact fin⟩
    | cons x ys ih =>
      intro acc hm hz e
      rw [lcE]
      refine ⟨hg _, step x (hm x (by simp)) acc _ _ (fun y hy => ?_) fun hy => ?_⟩
      · rw [new_at]
        simp only [List.length_cons] at hz
        refine ⟨by omega, ?_⟩
        rw [new_set]
        refine ih _ (fun z hz' => hm z (List.mem_cons_of_mem _ hz')) (by simp; omega) ?_
        rw [List.filterMap_cons, hy] at e
        simpa using e
      · simp only [List.length_cons] at hz
        refine ih _ (fun z hz' => hm z (List.mem_cons_of_mem _ hz')) (by omega) ?_
        rw [List.filterMap_cons, hy] at e
        exact e
  exact key xs [] (fun _ h => h) (by simp) (by simp)
theorem lc_map {g : EH → Prop} {p : Pat} {te : LT} {env : En} {P : EK} {h : EH} (f : EV → EV) (xs : List EV) (hl : xs.length ≤ sizeLine) (hg : ∀ acc, g (h ++ [.lst acc]))
    (step : ∀ x ∈ xs, ∀ acc (ky : EK), ky (f x) (h ++ [.lst acc]) → lBind (h ++ [.lst acc]) p x env fun env2 => te env2 (h ++ [.lst acc]) ky)
    (fin : P (.ref h.length) (h ++ [.lst (xs.map f)])) : lcE g p lYes te h.length env P xs (h ++ [.lst []]) := by
  refine lc_plain (fun x => some (f x)) xs hl hg (fun x hx acc ky kn hy _ => ?_) (by rw [List.filterMap_eq_map']; exact fin)
  have q := step x hx acc ky (hy _ rfl)
  unfold lBind at q ⊢
  split at q
  · rename_i e
    exact q
  · exact q
def Keep (b : Nat → Prop) (h h' : EH) : Prop := h.length ≤ h'.length ∧ ∀ r o, h[r]? = some o → ¬ b r → h'[r]? = some o
theorem Keep.refl {b : Nat → Prop} {h : EH} : Keep b h h := ⟨Nat.le_refl _, fun _ _ e _ => e⟩
theorem Keep.trans {b : Nat → Prop} {h h' h2 : EH} (x : Keep b h h') (y : Keep b h' h2) : Keep b h h2 := ⟨Nat.le_trans x.1 y.1, fun r o e n => y.2 r o (x.2 r o e n) n⟩
theorem Keep.app {b : Nat → Prop} {h : EH} (g : EH) : Keep b h (h ++ g) := ⟨by simp, fun r o e _ => by rw [List.getElem?_append_left (List.getElem?_eq_some_iff.mp e).1]; exact e⟩
theorem Keep.set {b : Nat → Prop} {h : EH} {r : Nat} {o : EO} (hb : b r) : Keep b h (h.set r o) := ⟨by simp, fun q u e n => by
  rw [List.getElem?_set_ne (fun z => n (by rw [← z]; exact hb))]; exact e⟩
theorem Keep.fresh {b : Nat → Prop} {h h' : EH} {r : Nat} {o : EO} (x : Keep b h h') (hr : h.length ≤ r) : Keep b h (h'.set r o) := ⟨by simpa using x.1, fun q u e n => by
  have hq := (List.getElem?_eq_some_iff.mp e).1
  rw [List.getElem?_set_ne (by omega)]; exact x.2 q u e n⟩
theorem Keep.weak {b c : Nat → Prop} {h h' : EH} (x : Keep b h h') (w : ∀ r, b r → c r) : Keep c h h' := ⟨x.1, fun r o e n => x.2 r o e fun z => n (w r z)⟩
def no1 : Nat → Prop := fun _ => False
theorem Keep.all {c : Nat → Prop} {h h' : EH} (x : Keep no1 h h') : Keep c h h' := x.weak fun _ z => z.elim
theorem Keep.at {h h' : EH} {r : Nat} {o : EO} (x : Keep no1 h h') (e : h[r]? = some o) : h'[r]? = some o := x.2 r o e fun z => z
theorem lt_of_at {h : EH} {r : Nat} {o : EO} (e : h[r]? = some o) : r < h.length := (List.getElem?_eq_some_iff.mp e).1
theorem app_at {h : EH} {r : Nat} {o : EO} (e : h[r]? = some o) (g : EH) : (h ++ g)[r]? = some o := by rw [List.getElem?_append_left (lt_of_at e)]; exact e
def DS (h : EH) (n k : Nat) (v : EV) (d : PyData) : Prop := Dat h n v d ∧ d.showable = true ∧ d.leavesShort 13 = true ∧ d.weight ≤ k
def DSs (h : EH) (n k : Nat) (vs : List EV) (ds : List PyData) : Prop := Dats h n vs ds ∧ PyData.showableAll ds = true ∧ PyData.leavesShortAll 13 ds = true ∧ PyData.weightAll ds ≤ k
section
variable {h : EH} {n k j : Nat}
theorem DS.non : DS h n k .non .none := ⟨.non, by simp [PyData.showable], by simp [PyData.leavesShort], by simp [PyData.weight]⟩
theorem DS.bl {b : Bool} : DS h n k (.bl b) (.bool b) := ⟨.bl b, by simp [PyData.showable], by simp [PyData.leavesShort], by simp [PyData.weight]⟩
theorem log_le {a k : Nat} (h : a < 2 ^ k) (h0 : 0 < k) : a.log2 < k := by
  by_cases z : a = 0
  · subst z; simpa using h0
  · exact (Nat.log2_lt z).mpr h
theorem DS.int {i : Int} (hi : i.natAbs < 10 ^ 12) (hk : 41 ≤ k) : DS h n k (.int i) (.int i) := by
  have l : i.natAbs.log2 < 40 := log_le (Nat.lt_trans hi (by decide)) (by decide)
  refine ⟨.int i, ?_, ?_, ?_⟩
  · rw [PyData.showable.eq_4]
    exact decide_eq_true (by omega)
  · simp only [PyData.leavesShort]
    exact decide_eq_true (PyData.shown_int_le hi)
  · simp only [PyData.weight]
    split <;> omega
theorem DS.str {s : List Nat} (hs : ∀ c ∈ s, c < 16 ^ 8) (hk : s.length ≤ k) : DS h n k (.str s) (.str (S s)) := by
  refine ⟨.str s, by rw [PyData.showable.eq_3], ?_, ?_⟩
  · simp only [PyData.leavesShort, List.all_eq_true, decide_eq_true_eq]
    exact fun c hc => hs c (by simpa using hc)
  · simp only [PyData.weight]
    simpa using hk
theorem DSs.nil : DSs h n k [] [] := ⟨.nil, by simp [PyData.showableAll], by simp [PyData.leavesShortAll], by simp [PyData.weightAll]⟩
theorem DSs.cons {x : EV} {xs : List EV} {d : PyData} {ds : List PyData} {a b : Nat} (hx : DS h n a x d) (hs : DSs h n b xs ds) : DSs h n (a + 1 + b) (x :: xs) (d :: ds) := by
  refine ⟨.cons hx.1 hs.1, ?_, ?_, ?_⟩
  · simp only [PyData.showableAll, hx.2.1, hs.2.1, Bool.and_self]
  · simp only [PyData.leavesShortAll, hx.2.2.1, hs.2.2.1, Bool.and_self]
  · simp only [PyData.weightAll]
    have := hx.2.2.2
    have := hs.2.2.2
    omega
theorem DS.tup {xs : List EV} {ds : List PyData} (hs : DSs h n k xs ds) : DS h (n + 1) k (.tup xs) (.tuple ds) := by
  refine ⟨.tup hs.1, ?_, ?_, ?_⟩
  · simpa only [PyData.showable] using hs.2.1
  · simpa only [PyData.leavesShort] using hs.2.2.1
  · simpa only [PyData.weight] using hs.2.2.2
theorem DS.lst {r : Nat} {xs : List EV} {ds : List PyData} (e : h[r]? = some (.lst xs)) (hs : DSs h n k xs ds) : DS h (n + 1) k (.ref r) (.list ds) := by
  refine ⟨.lst e hs.1, ?_, ?_, ?_⟩
  · simpa only [PyData.showable] using hs.2.1
  · simpa only [PyData.leavesShort] using hs.2.2.1
  · simpa only [PyData.weight] using hs.2.2.2
theorem DS.more {v : EV} {d : PyData} (x : DS h n k v d) (hk : k ≤ j) : DS h n j v d := ⟨x.1, x.2.1, x.2.2.1, Nat.le_trans x.2.2.2 hk⟩
theorem DSs.more {v : List EV} {d : List PyData} (x : DSs h n k v d) (hk : k ≤ j) : DSs h n j v d := ⟨x.1, x.2.1, x.2.2.1, Nat.le_trans x.2.2.2 hk⟩
theorem DS.fits {v : EV} {d : PyData} (x : DS h n k v d) (hk : k ≤ 2 ^ 20) : d.showable = true ∧ d.shown.length ≤ sizeLine := ⟨x.2.1, PyData.shown_fits (by decide) (by decide) x.2.2.1 (Nat.le_trans x.2.2.2 hk)⟩
end
mutual
def pd : EV → PyData
  | .int i => .int i
  | .bl b => .bool b
  | .str s => .str (S s)
  | .tup xs => .tuple (pds xs)
  | _ => .none
def pds : List EV → List PyData
  | [] => []
  | x :: xs => pd x :: pds xs
end
mutual
/-- small, no objects; nested at most n deep -/
def Sml : Nat → EV → Prop
  | _, .int i => i.natAbs < 10 ^ 12
  | _, .bl _ => True
  | _, .non => True
  | _, .str s => ∀ c ∈ s, c < 16 ^ 8
  | n + 1, .tup xs => Smls n xs
  | _, _ => False
def Smls : Nat → List EV → Prop
  | _, [] => True
  | n, x :: xs => Sml n x ∧ Smls n xs
end
mutual
def wE : EV → Nat
  | .int _ => 41
  | .str s => s.length
  | .tup xs => wEs xs
  | _ => 0
def wEs : List EV → Nat
  | [] => 0
  | x :: xs => wE x + 1 + wEs xs
end
mutual
theorem Sml.ds {h : EH} : ∀ (n : Nat) (v : EV), Sml n v → DS h n (wE v) v (pd v)
  | n, .int i, s => by rw [Sml] at s; rw [pd, wE]; exact .int s (Nat.le_refl _)
  | n, .bl b, s => by rw [pd]; exact .bl
  | n, .non, s => by simp only [pd, wE]; exact .non
  | n, .str l, s => by rw [Sml] at s; rw [pd, wE]; exact .str s (Nat.le_refl _)
  | n + 1, .tup xs, s => by rw [Sml] at s; rw [pd, wE]; exact .tup (Smls.ds n xs s)
  | 0, .tup xs, s => by simp [Sml] at s
  | _, .ref _, s => by simp [Sml] at s
  | _, .adr _, s => by simp [Sml] at s
  | _, .ty _, s => by simp [Sml] at s
theorem Smls.ds {h : EH} : ∀ (n : Nat) (vs : List EV), Smls n vs → DSs h n (wEs vs) vs (pds vs)
  | n, [], s => by rw [pds, wEs]; exact .nil
  | n, x :: xs, s => by rw [Smls] at s; rw [pds, wEs]; exact .cons (Sml.ds n x s.1) (Smls.ds n xs s.2)
end
theorem Smls.all {n : Nat} : ∀ {vs : List EV}, (∀ v ∈ vs, Sml n v) → Smls n vs
  | [], _ => by rw [Smls]; trivial
  | x :: xs, s => by rw [Smls]; exact ⟨s x (by simp), Smls.all fun v hv => s v (List.mem_cons_of_mem _ hv)⟩
theorem eqE_same {h : EH} {v w : EV} {d : PyData} {P : EK} (a : Dat h 60 v d) (b : Dat h 60 w d) (p : P (.bl true) h) : eqE false v w h P := by
  have fin : ∃ d e, Dat h 60 v d ∧ Dat h 60 w e ∧ P (.bl (false ^^ PyData.eqv d e)) h := ⟨d, d, a, b, by
    rw [PySem.SeqAt.eqv_refl_plain d (Dat.dep d 60 v a).2]; exact p⟩
  cases a <;> cases b <;> first | exact fin | (unfold eqE; simpa using p)
end Y

namespace Y
open PySem PySem.Spec PyProof.Rows L2

theorem sizeL : sizeLine = 16777216 := by decide
theorem at0 {α : Type} {x : α} {xs : List α} : atI (x :: xs) 0 = some x := by
  have := L2.atI_nat (xs := x :: xs) (j := 0) (v := x) rfl
  simpa using this
theorem at1 {α : Type} {x y : α} {xs : List α} : atI (x :: y :: xs) 1 = some y := by
  have := L2.atI_nat (xs := x :: y :: xs) (j := 1) (v := y) rfl
  simpa using this
theorem at2 {α : Type} {x y z : α} {xs : List α} : atI (x :: y :: z :: xs) 2 = some z := by
  have := L2.atI_nat (xs := x :: y :: z :: xs) (j := 2) (v := z) rfl
  simpa using this
theorem at3 {α : Type} {x y z u : α} {xs : List α} : atI (x :: y :: z :: u :: xs) 3 = some u := by
  have := L2.atI_nat (xs := x :: y :: z :: u :: xs) (j := 3) (v := u) rfl
  simpa using this
theorem set_at {h : EH} {b : Nat} {o u : EO} (e : h[b]? = some u) : (h.set b o)[b]? = some o := List.getElem?_set_self (lt_of_at e)
theorem set_off {h : EH} {b c : Nat} {o u : EO} (e : h[c]? = some u) (n : c ≠ b) : (h.set b o)[c]? = some u := by rw [List.getElem?_set_ne (fun z => n z.symm)]; exact e
section
variable {h : EH} {P : EK} {r l b c : Nat} {xs ys : List EV} {i j : Int} {v w x : EV}
theorem ix_l (e : h[r]? = some (.lst xs)) (a : atI xs i = some x) (p : P x h) : ixE (.ref r) (.int i) h P := by
  unfold ixE; simp only [e, a]; exact p
theorem ix_t (a : atI xs i = some x) (p : P x h) : ixE (.tup xs) (.int i) h P := by
  unfold ixE; simp only [a]; exact p
theorem sl_l {lo hi : Option Int} (e : h[r]? = some (.lst xs)) (p : P (.ref h.length) (h ++ [.lst (cut xs lo hi)])) : slE (.ref r) lo hi h P := by
  unfold slE; simp only [e]; exact p
theorem add_l (e : h[l]? = some (.lst xs)) (e2 : h[r]? = some (.lst ys)) (hl : xs.length + ys.length ≤ sizeLine) (p : P (.ref h.length) (h ++ [.lst (xs ++ ys)])) : addE (.ref l) (.ref r) h P := by
  unfold addE; simp only [e, e2]; exact ⟨hl, p⟩
theorem set_l {k : Nat} {p : EH → Prop} (e : h[b]? = some (.lst xs)) (a : ixN xs.length i = some k) (q : p (h.set b (.lst (xs.set k v)))) : setE (.ref b) (.int i) v h p := by
  unfold setE; simp only [e, a]; exact q
theorem get_l {p : EV → Prop} (e : h[b]? = some (.lst xs)) (h0 : 0 ≤ i) (a : xs[i.toNat]? = some x) (q : p x) : getE (.ref b) (.int i) h p := by
  unfold getE; simp only [e, a]; exact ⟨h0, q⟩
theorem mul_i (c : IntMulOk i j) (p : P (.int (i * j)) h) : mulE (.int i) (.int j) h P := ⟨c, p⟩
theorem mod_i (c : 0 < j) (p : P (.int (i % j)) h) : modE (.int i) (.int j) h P := ⟨c, p⟩
theorem div_i (c : 0 < j) (c2 : j < 2 ^ 64) (p : P (.int (i / j)) h) : fdivE (.int i) (.int j) h P := ⟨⟨c, by
  have := log_le (a := j.natAbs) (k := 64) (by omega) (by decide)
  omega⟩, p⟩
theorem pow_i (c : CPow i j) (p : P (.int (i ^ j.toNat)) h) : powE (.int i) (.int j) h P := ⟨c, p⟩
theorem int_i (p : P (.int i) h) : intOf [.int i] h P := p
theorem int_b {q : Bool} (p : P (.int (if q then 1 else 0)) h) : intOf [.bl q] h P := p
theorem ge_i (p : P (.bl (decide (j ≤ i))) h) : geE (.int i) (.int j) h P := p
theorem add_i (p : P (.int (i + j)) h) : addE (.int i) (.int j) h P := p
theorem eq_i {n : Bool} (p : P (.bl (n ^^ decide (i = j))) h) : eqE n (.int i) (.int j) h P := p
theorem eq_s {n : Bool} {s t : List Nat} (p : P (.bl (n ^^ decide (s = t))) h) : eqE n (.str s) (.str t) h P := p
theorem mulOk_r (hj : j.natAbs < 2 ^ 64) : IntMulOk i j := (show CMul i j from .inr (by omega)).ok
theorem mulOk_l (hi : i.natAbs < 2 ^ 64) : IntMulOk i j := (show CMul i j from .inl (by omega)).ok
theorem ins_e (e : h[r]? = some (.lst xs)) (hl : xs.length < sizeLine) (h0 : 0 ≤ i) (h1 : i < 2 ^ 63) (p : P .non (h.set r (.lst (xs.take i.toNat ++ [v] ++ xs.drop i.toNat)))) : insertE (.ref r) [.int i, v] h P := by
  unfold insertE onList; simp only [e]; exact ⟨hl, h0, h1, p⟩
theorem len_l (e : h[r]? = some (.lst xs)) (p : P (.int xs.length) h) : lenE [.ref r] h P := by
  unfold lenE; simp only [e]; exact p
end
theorem cut_to {α : Type} (xs : List α) (k : Nat) : cut xs none (some (k : Int)) = xs.take k := by
  unfold cut
  rw [HT.sIx_none, HT.sIx_nat]
  simp only [List.drop_zero, Nat.sub_zero]
  by_cases q : k ≤ xs.length
  · rw [Nat.min_eq_left q]
  · rw [Nat.min_eq_right (by omega), List.take_of_length_le (Nat.le_refl _), List.take_of_length_le (by omega)]
theorem cut_from {α : Type} (xs : List α) (k : Nat) : cut xs (some (k : Int)) none = xs.drop k := by
  unfold cut
  rw [HT.sIx_none, HT.sIx_nat]
  by_cases q : k ≤ xs.length
  · rw [Nat.min_eq_left q, List.take_of_length_le (by simp)]
  · rw [Nat.min_eq_right (by omega), List.take_of_length_le (by simp), List.drop_of_length_le (Nat.le_refl _), List.drop_of_length_le (by omega)]
mutual
/-- nested at most n deep, so at most j -/
theorem Dat.deep' {h : EH} : ∀ (d : PyData) (n j : Nat) (v : EV), n ≤ j → Dat h n v d → Dat h j v d
  | .none, n, j, v, l, a => by cases a; exact .non
  | .bool _, n, j, v, l, a => by cases a; exact .bl _
  | .int _, n, j, v, l, a => by cases a; exact .int _
  | .str _, n, j, v, l, a => by cases a; exact .str _
  | .dict _, n, j, v, l, a => by cases a
  | .tuple ds, n, j, v, l, a => by
    cases a with
    | tup r =>
      cases j with
      | zero => omega
      | succ j => exact .tup (Dats.deep' ds _ j _ (by omega) r)
    | ktup r =>
      cases j with
      | zero => omega
      | succ j => exact .ktup (Dats.deep' ds _ j _ (by omega) r)
  | .list ds, n, j, v, l, a => by
    cases a with
    | lst e r =>
      cases j with
      | zero => omega
      | succ j => exact .lst e (Dats.deep' ds _ j _ (by omega) r)
theorem Dats.deep' {h : EH} : ∀ (ds : List PyData) (n j : Nat) (vs : List EV), n ≤ j → Dats h n vs ds → Dats h j vs ds
  | [], n, j, vs, l, a => by cases a; exact .nil
  | d :: ds, n, j, vs, l, a => by
    cases a with
    | cons a b => exact .cons (Dat.deep' d n j _ l a) (Dats.deep' ds n j _ l b)
end
theorem Dat.deep {h : EH} {d : PyData} {n j : Nat} {v : EV} (a : Dat h n v d) (l : n ≤ j) : Dat h j v d := Dat.deep' d n j v l a
theorem bind_nm {h : EH} {i : Nat} {v : EV} {env : En} {P : En → Prop} (p : P (env.set i (some v))) : lBind h (.nm i) v env P := p
end Y

namespace Y
open PySem PySem.Spec PyProof.Rows L2

def kEq : EV → EV → Bool
  | .int i, .int j => decide (i = j)
  | .str a, .str b => decide (a = b)
  | _, _ => false
def isKey : EV → Prop
  | .int _ => True
  | .str _ => True
  | _ => False
def dGet (kvs : List (EV × EV)) (k : EV) : Option EV := match kvs with
  | [] => none
  | (a, x) :: r => if kEq a k = true then some x else dGet r k
def dHas (kvs : List (EV × EV)) (k : EV) : Bool := (dGet kvs k).isSome
def dRep (kvs : List (EV × EV)) (k v : EV) : List (EV × EV) := kvs.map fun p => if kEq p.1 k = true then (p.1, v) else p
def dPut (kvs : List (EV × EV)) (k v : EV) : List (EV × EV) := if dHas kvs k = true then dRep kvs k v else kvs ++ [(k, v)]
section
variable {K : PySem.W.Frag} {m : Nat → Addr} {n : Nat} {H : Hp}
theorem key_of {k : EV} {y : V} (hk : isKey k) (r : RelE K m n H k y) : ∃ k' : L2.Key, y = kV k' := by
  cases k with
  | int i => rw [RelE] at r; exact ⟨.inl i, r⟩
  | str s => rw [RelE] at r; exact ⟨.inr (S s), r⟩
  | _ => exact hk.elim
theorem kEq_dec {a k : EV} {x y : L2.Key} (ra : RelE K m n H a (kV x)) (rk : RelE K m n H k (kV y)) (hk : isKey k) : kEq a k = decide (x = y) := by
  have no : ∀ {b : Bool} {z : L2.Key}, kV z ≠ V.bl b := fun {b z} => by cases z <;> simp [kV]
  cases k with
  | int j =>
    rw [RelE] at rk
    cases y with
    | inl j' =>
      have : j' = j := by injection rk
      subst this
      cases a with
      | int i =>
        rw [RelE] at ra
        cases x with
        | inl i' =>
          have : i' = i := by injection ra
          subst this
          simp [kEq]
        | inr s => cases ra
      | str s =>
        rw [RelE] at ra
        cases x with
        | inl i' => cases ra
        | inr s' => simp [kEq]
      | non => rw [RelE] at ra; cases x <;> cases ra
      | bl b => rw [RelE] at ra; exact absurd ra no
      | tup xs => rw [RelE] at ra; obtain ⟨_, _, e, _⟩ := ra; cases x <;> cases e
      | ktup xs => rw [RelE] at ra; obtain ⟨_, _, e, _⟩ := ra; cases x <;> cases e
      | ref r => rw [RelE] at ra; cases x <;> cases ra.2
      | adr r => rw [RelE] at ra; cases x <;> cases ra
      | ty r => rw [RelE] at ra; cases x <;> cases ra
    | inr s => cases rk
  | str t =>
    rw [RelE] at rk
    cases y with
    | inl j' => cases rk
    | inr t' =>
      have : t' = S t := by injection rk
      subst this
      cases a with
      | int i =>
        rw [RelE] at ra
        cases x with
        | inl i' => simp [kEq]
        | inr s => cases ra
      | str s =>
        rw [RelE] at ra
        cases x with
        | inl i' => cases ra
        | inr s' =>
          have : s' = S s := by injection ra
          subst this
          simp only [kEq, Sum.inr.injEq, S_inj]
      | non => rw [RelE] at ra; cases x <;> cases ra
      | bl b => rw [RelE] at ra; exact absurd ra no
      | tup xs => rw [RelE] at ra; obtain ⟨_, _, e, _⟩ := ra; cases x <;> cases e
      | ktup xs => rw [RelE] at ra; obtain ⟨_, _, e, _⟩ := ra; cases x <;> cases e
      | ref r => rw [RelE] at ra; cases x <;> cases ra.2
      | adr r => rw [RelE] at ra; cases x <;> cases ra
      | ty r => rw [RelE] at ra; cases x <;> cases ra
  | _ => exact hk.elim
theorem RelKV.get {k : EV} {y : L2.Key} (rk : RelE K m n H k (kV y)) (hk : isKey k) : ∀ {es : List (EV × EV)} {l : List (L2.Key × V)}, RelKV K m n H es l →
    (∀ x, dGet es k = some x → ∃ v, valV l y = some v ∧ RelE K m n H x v) ∧ (dGet es k = none → valV l y = none)
  | [], l, r => by
    rw [RelKV] at r
    subst r
    exact ⟨fun x e => by simp [dGet] at e, fun _ => rfl⟩
  | (a, x) :: es, l, r => by
    rw [RelKV] at r
    obtain ⟨a', v, l', rfl, ra, rx, r⟩ := r
    have e := kEq_dec ra rk hk
    have ih := RelKV.get rk hk r
    unfold dGet
    rw [e]
    by_cases q : a' = y
    · rw [decide_eq_true q, if_pos rfl, valV_pos (p := (a', v)) q]
      exact ⟨fun z ez => by cases ez; exact ⟨v, rfl, rx⟩, fun ez => by cases ez⟩
    · rw [decide_eq_false q, if_neg Bool.false_ne_true, valV_neg (p := (a', v)) q]
      exact ih
theorem RelKV.has {k : EV} {y : L2.Key} {es : List (EV × EV)} {l : List (L2.Key × V)} (rk : RelE K m n H k (kV y)) (hk : isKey k) (r : RelKV K m n H es l) : (valV l y).isSome = dHas es k := by
  obtain ⟨h1, h2⟩ := RelKV.get rk hk r
  unfold dHas
  cases e : dGet es k with
  | none => rw [h2 e]; rfl
  | some x => obtain ⟨v, ev, _⟩ := h1 x e; rw [ev]; rfl
theorem RelKV.app {es fs : List (EV × EV)} {l l' : List (L2.Key × V)} (h : RelKV K m n H es l) (g : RelKV K m n H fs l') : RelKV K m n H (es ++ fs) (l ++ l') := by
  induction es generalizing l with
  | nil => rw [RelKV] at h; subst h; exact g
  | cons p es ih =>
    obtain ⟨a, x⟩ := p
    rw [RelKV] at h
    obtain ⟨a', v, l2, rfl, ra, rx, r⟩ := h
    rw [List.cons_append, List.cons_append, RelKV]
    exact ⟨a', v, _, rfl, ra, rx, ih r⟩
theorem RelKV.rep {k w : EV} {y : L2.Key} {z : V} (rk : RelE K m n H k (kV y)) (hk : isKey k) (rw' : RelE K m n H w z) : ∀ {es : List (EV × EV)} {l : List (L2.Key × V)}, RelKV K m n H es l →
    RelKV K m n H (dRep es k w) (l.map fun kv => if kv.1 = y then (kv.1, z) else kv)
  | [], l, r => by rw [RelKV] at r; subst r; exact rfl
  | (a, x) :: es, l, r => by
    rw [RelKV] at r
    obtain ⟨a', v, l', rfl, ra, rx, r⟩ := r
    have e := kEq_dec ra rk hk
    have ih := RelKV.rep rk hk rw' r
    unfold dRep at ih ⊢
    rw [List.map_cons, List.map_cons]
    simp only [e]
    by_cases q : a' = y
    · rw [decide_eq_true q, if_pos rfl, if_pos q, RelKV]
      exact ⟨a', z, _, rfl, ra, rw', ih⟩
    · rw [decide_eq_false q, if_neg Bool.false_ne_true, if_neg q, RelKV]
      exact ⟨a', v, _, rfl, ra, rx, ih⟩
theorem RelKV.put {k w : EV} {y : L2.Key} {z : V} {es : List (EV × EV)} {l : List (L2.Key × V)} (rk : RelE K m n H k (kV y)) (hk : isKey k) (rw' : RelE K m n H w z) (r : RelKV K m n H es l) : RelKV K m n H (dPut es k w) (putK l y z) := by
  unfold dPut putK
  rw [valV_any, RelKV.has rk hk r]
  split
  · exact RelKV.rep rk hk rw' r
  · exact r.app (by rw [RelKV]; exact ⟨y, z, [], rfl, rk, rw', rfl⟩)
end
def isKeyT (v : EV) : Prop := (keyL v).isSome = true
def dGetT (kvs : List (EV × EV)) (k : EV) : Option EV := match kvs with
  | [] => none
  | (a, x) :: r => if keyL a = keyL k then some x else dGetT r k
def dHasT (kvs : List (EV × EV)) (k : EV) : Bool := (dGetT kvs k).isSome
def dRepT (kvs : List (EV × EV)) (k v : EV) : List (EV × EV) := kvs.map fun p => if keyL p.1 = keyL k then (p.1, v) else p
def dPutT (kvs : List (EV × EV)) (k v : EV) : List (EV × EV) := if dHasT kvs k = true then dRepT kvs k v else kvs ++ [(k, v)]
section
variable {K : PySem.W.Frag} {m : Nat → Addr} {n : Nat} {H : Hp}
theorem keysL_rel : ∀ {ks : List EV} {k' : List L2.Key} {vs : List V}, keysL ks = some k' → RelEs K m n H ks vs → vs = k'.map kV
  | [], k', vs, e, r => by
    rw [keysL] at e; cases e
    rw [RelEs] at r; exact r
  | x :: ks, k', vs, e, r => by
    rw [RelEs] at r
    obtain ⟨v, l, rfl, a, b⟩ := r
    cases x with
    | int i =>
      rw [keysL] at e
      obtain ⟨q, hq, rfl⟩ := Option.map_eq_some_iff.mp e
      rw [RelE] at a
      rw [a, keysL_rel hq b]; rfl
    | str s =>
      rw [keysL] at e
      obtain ⟨q, hq, rfl⟩ := Option.map_eq_some_iff.mp e
      rw [RelE] at a
      rw [a, keysL_rel hq b]; rfl
    | _ => simp [keysL] at e
theorem keyT_of {k : EV} {y : V} (hk : isKeyT k) (r : RelE K m n H k y) : ∃ k' b, keyL k = some k' ∧ y = .ref b ∧ H b = some (.tup (k'.map kV)) := by
  obtain ⟨k', e⟩ := Option.isSome_iff_exists.mp hk
  cases k with
  | tup ks =>
    rw [RelE] at r
    obtain ⟨a, vs, rfl, h, r⟩ := r
    exact ⟨k', a, e, rfl, by rw [← keysL_rel e r]; exact h⟩
  | _ => simp [keyL] at e
theorem RelKT.get {k : EV} {y : List L2.Key} (hk : keyL k = some y) : ∀ {es : List (EV × EV)} {l : List (List L2.Key × V)}, RelKT K m n H es l →
    (∀ x, dGetT es k = some x → ∃ v, valV l y = some v ∧ RelE K m n H x v) ∧ (dGetT es k = none → valV l y = none)
  | [], l, r => by
    rw [RelKT] at r
    subst r
    exact ⟨fun x e => by simp [dGetT] at e, fun _ => rfl⟩
  | (a, x) :: es, l, r => by
    rw [RelKT] at r
    obtain ⟨a', v, l', rfl, ra, rx, r⟩ := r
    have ih := RelKT.get hk r
    unfold dGetT
    rw [ra, hk]
    by_cases q : a' = y
    · rw [if_pos (by rw [q]), valV_pos (p := (a', v)) q]
      exact ⟨fun z ez => by cases ez; exact ⟨v, rfl, rx⟩, fun ez => by cases ez⟩
    · rw [if_neg (fun z => q (Option.some.inj z)), valV_neg (p := (a', v)) q]
      exact ih
theorem RelKT.has {k : EV} {y : List L2.Key} {es : List (EV × EV)} {l : List (List L2.Key × V)} (hk : keyL k = some y) (r : RelKT K m n H es l) : (valV l y).isSome = dHasT es k := by
  obtain ⟨h1, h2⟩ := RelKT.get hk r
  unfold dHasT
  cases e : dGetT es k with
  | none => rw [h2 e]; rfl
  | some x => obtain ⟨v, ev, _⟩ := h1 x e; rw [ev]; rfl
theorem RelKT.app {es fs : List (EV × EV)} {l l' : List (List L2.Key × V)} (h : RelKT K m n H es l) (g : RelKT K m n H fs l') : RelKT K m n H (es ++ fs) (l ++ l') := by
  induction es generalizing l with
  | nil => rw [RelKT] at h; subst h; exact g
  | cons p es ih =>
    obtain ⟨a, x⟩ := p
    rw [RelKT] at h
    obtain ⟨a', v, l2, rfl, ra, rx, r⟩ := h
    rw [List.cons_append, List.cons_append, RelKT]
    exact ⟨a', v, _, rfl, ra, rx, ih r⟩
theorem RelKT.rep {k w : EV} {y : List L2.Key} {z : V} (hk : keyL k = some y) (rw' : RelE K m n H w z) : ∀ {es : List (EV × EV)} {l : List (List L2.Key × V)}, RelKT K m n H es l →
    RelKT K m n H (dRepT es k w) (l.map fun kv => if kv.1 = y then (kv.1, z) else kv)
  | [], l, r => by rw [RelKT] at r; subst r; exact rfl
  | (a, x) :: es, l, r => by
    rw [RelKT] at r
    obtain ⟨a', v, l', rfl, ra, rx, r⟩ := r
    have ih := RelKT.rep hk rw' r
    unfold dRepT at ih ⊢
    rw [List.map_cons, List.map_cons]
    simp only [ra, hk]
    by_cases q : a' = y
    · rw [if_pos (by rw [q]), if_pos q, RelKT]
      exact ⟨a', z, _, rfl, ra, rw', by simpa only [hk] using ih⟩
    · rw [if_neg (fun z => q (Option.some.inj z)), if_neg q, RelKT]
      exact ⟨a', v, _, rfl, ra, rx, by simpa only [hk] using ih⟩
theorem RelKT.put {k w : EV} {y : List L2.Key} {z : V} {es : List (EV × EV)} {l : List (List L2.Key × V)} (hk : keyL k = some y) (rw' : RelE K m n H w z) (r : RelKT K m n H es l) : RelKT K m n H (dPutT es k w) (putK l y z) := by
  unfold dPutT putK
  rw [valV_any, RelKT.has hk r]
  split
  · exact RelKT.rep hk rw' r
  · exact r.app (by rw [RelKT]; exact ⟨y, z, [], rfl, hk, rw', rfl⟩)
theorem RelKT.length : ∀ {es : List (EV × EV)} {vs : List (List L2.Key × V)}, RelKT K m n H es vs → es.length = vs.length
  | [], _, r => by rw [RelKT] at r; subst r; rfl
  | _ :: _, _, r => by
    rw [RelKT] at r
    obtain ⟨k, v, l, rfl, _, _, r⟩ := r
    simp [RelKT.length r]
end
def dgE : LO := fun v w h P => match v with
  | .ref r => match h[r]? with
    | some (.dic kvs) => isKey w ∧ match dGet kvs w with
      | some x => P x h
      | none => False
    | some (.dct kvs) => isKeyT w ∧ match dGetT kvs w with
      | some x => P x h
      | none => False
    | _ => False
  | _ => False
def rDg : R2 := fun x y H Q => ∃ a v, x = .ref a ∧ DGet H a y (some v) ∧ Q v H
section
variable {X : Cx}
theorem ix_dg (hu : X.A.units + 1 < cLine) : IxR X rDg := by
  intro value slice pins s σ H x y v u Q I rx ry h hs
  obtain ⟨a, r, rfl, g, q⟩ := h
  obtain rfl : v = Value.ref a := rx
  exact tail_any (dict_typeIs I g) slot_dict_getitem.lookup (d_getItem hu I g ry fun w' s3 I3 rw' => ⟨r, H, I3, rw', q⟩) hs
theorem lop_dg : LOp X.K rDg dgE := by
  intro m h H v w x y P Q R rx ry q k
  unfold dgE at q
  split at q
  · rw [RelE] at rx
    obtain ⟨_, rfl⟩ := rx
    split at q
    · rename_i e
      obtain ⟨l, a, r⟩ := R.obj _ _ e
      obtain ⟨hk, q⟩ := q
      obtain ⟨k', rfl⟩ := key_of hk ry
      split at q
      · rename_i e2
        obtain ⟨z, ez, rz⟩ := (RelKV.get ry hk r).1 _ e2
        refine ⟨_, z, rfl, ?_, k.same R q rz⟩
        rw [← ez]
        exact DGet.k a
      · exact q.elim
    · rename_i e
      obtain ⟨l, a, r⟩ := R.obj _ _ e
      obtain ⟨hk, q⟩ := q
      obtain ⟨k', b, ek, rfl, hb⟩ := keyT_of hk ry
      split at q
      · rename_i e2
        obtain ⟨z, ez, rz⟩ := (RelKT.get ek r).1 _ e2
        refine ⟨_, z, rfl, ?_, k.same R q rz⟩
        rw [← ez]
        exact DGet.t a hb
      · exact q.elim
    · exact q.elim
  · exact q.elim
end
def ixA : LO := fun v w h P => match v with
  | .ref r => match h[r]? with
    | some (.dic _) => dgE v w h P
    | some (.dct _) => dgE v w h P
    | _ => ixE v w h P
  | _ => ixE v w h P
theorem ixA_or {v w : EV} {h : EH} {P : EK} (q : ixA v w h P) : dgE v w h P ∨ ixE v w h P := by
  unfold ixA at q
  split at q
  · split at q
    · exact .inl q
    · exact .inl q
    · exact .inr q
  · exact .inr q
theorem lixA {X : Cx} (hu : X.A.units + 1 < cLine) : LIxR X ixA := by
  obtain ⟨r, h, s⟩ := lix (X := X)
  refine ⟨_, IxR.or (ix_dg hu) h, fun m h H v w x y P Q R rx ry q k => ?_⟩
  rcases ixA_or q with q | q
  · exact .inl (lop_dg m h H v w x y P Q R rx ry q k)
  · exact .inr (s m h H v w x y P Q R rx ry q k)
section
variable {h : EH} {P : EK} {r l b c : Nat} {xs ys : List EV} {i j : Int} {v w x : EV} {kvs : List (EV × EV)}
theorem ia_l (e : h[r]? = some (.lst xs)) (a : atI xs i = some x) (p : P x h) : ixA (.ref r) (.int i) h P := by
  unfold ixA; simp only [e]; exact ix_l e a p
theorem ia_t (a : atI xs i = some x) (p : P x h) : ixA (.tup xs) (.int i) h P := ix_t a p
theorem ia_d (e : h[r]? = some (.dic kvs)) (hk : isKey w) (a : dGet kvs w = some x) (p : P x h) : ixA (.ref r) w h P := by
  unfold ixA dgE; simp only [e, a]; exact ⟨hk, p⟩
theorem ia_dt (e : h[r]? = some (.dct kvs)) (hk : isKeyT w) (a : dGetT kvs w = some x) (p : P x h) : ixA (.ref r) w h P := by
  unfold ixA dgE; simp only [e, a]; exact ⟨hk, p⟩
end
def flatE : EV → Bool
  | .non => true
  | .bl _ => true
  | .int _ => true
  | .str _ => true
  | _ => false
def eqF : EV → EV → Bool
  | .non, .non => true
  | .bl a, .bl b => decide (a = b)
  | .int i, .int j => decide (i = j)
  | .str a, .str b => decide (a = b)
  | .bl b, .int i => decide (i = if b then 1 else 0)
  | .int i, .bl b => decide (i = if b then 1 else 0)
  | _, _ => false
def inF (v : EV) (xs : List EV) : Bool := xs.any fun y => eqF y v
def toV : EV → V
  | .bl b => .bl b
  | .int i => .int i
  | .str s => .str (S s)
  | _ => .non
theorem flat_rel {K : PySem.W.Frag} {m : Nat → Addr} {n : Nat} {H : Hp} {v : EV} {x : V} (f : flatE v = true) (r : RelE K m n H v x) : x = toV v := by
  cases v <;> first | (simp [flatE] at f; done) | (rw [RelE] at r; exact r)
theorem toV_flat {v : EV} (f : flatE v = true) : flatV (toV v) = true := by
  cases v <;> first | (simp [flatE] at f; done) | rfl
theorem eqF_V {a b : EV} (fa : flatE a = true) (fb : flatE b = true) : eqV (toV a) (toV b) = eqF a b := by
  cases a <;> cases b <;> first
    | (simp [flatE] at fa; done)
    | (simp [flatE] at fb; done)
    | rfl
    | (simp only [toV, eqV, eqF]; exact beqD _ _)
    | (simp only [toV, eqV, eqF]; rw [beqD]; exact decide_eq_decide.mpr S_inj)
    | (simp only [toV, eqV, eqF]; rw [beqD]; exact decide_eq_decide.mpr eq_comm)
theorem flats_rel {K : PySem.W.Frag} {m : Nat → Addr} {n : Nat} {H : Hp} : ∀ {es : List EV} {vs : List V}, es.all flatE = true → RelEs K m n H es vs → vs = es.map toV
  | [], vs, _, r => by rw [RelEs] at r; exact r
  | e :: es, vs, f, r => by
    rw [RelEs] at r
    obtain ⟨v, l, rfl, a, b⟩ := r
    simp only [List.all_cons, Bool.and_eq_true] at f
    rw [flat_rel f.1 a, flats_rel f.2 b]; rfl
theorem inF_V {v : EV} {xs : List EV} (fv : flatE v = true) (fs : xs.all flatE = true) : inV (toV v) (xs.map toV) = inF v xs := by
  unfold inV inF
  induction xs with
  | nil => rfl
  | cons x xs ih =>
    simp only [List.all_cons, Bool.and_eq_true] at fs
    rw [List.map_cons, List.any_cons, List.any_cons, ih fs.2, eqF_V fs.1 fv]
def inSq (neg : Bool) (v : EV) (xs : List EV) (P : EV → Prop) : Prop := flatE v = true ∧ xs.all flatE = true ∧ P (.bl (neg ^^ inF v xs))
def inA (neg : Bool) : LO := fun v w h P => match w with
  | .tup xs => inSq neg v xs fun b => P b h
  | .ktup xs => inSq neg v xs fun b => P b h
  | .str z => match v with
    | .str [c] => P (.bl (neg ^^ decide (c ∈ z))) h
    | _ => False
  | .ref r => match h[r]? with
    | some (.dic kvs) => isKey v ∧ P (.bl (neg ^^ dHas kvs v)) h
    | some (.dct kvs) => isKeyT v ∧ P (.bl (neg ^^ dHasT kvs v)) h
    | some (.lst xs) => (inSq neg v xs fun b => P b h) ∨ ∃ d ds, Dat h 60 v d ∧ Dats h 59 xs ds ∧ PySem.SeqAt.shaped d = true ∧ PySem.SeqAt.shaped (.list ds) = true ∧ P (.bl (neg ^^ ds.any fun z => PyData.eqv z d)) h
    | some (.frz xs) => inSq neg v xs fun b => P b h
    | _ => False
  | _ => False
def rInDic (neg : Bool) : R2 := fun y x H Q => ∃ a o, x = .ref a ∧ DGet H a y o ∧ Q (.bl (neg ^^ o.isSome)) H
section
variable {X : Cx}
theorem inA_sim {neg : Bool} {m : Nat → Addr} {h : EH} {H : Hp} {v w : EV} {x y : V} {P : EK} {Q : VK} (R : RelH X.K m h H) (rx : RelE X.K m h.length H v x) (ry : RelE X.K m h.length H w y) (q : inA neg v w h P) (k : Kon X.K m h.length H P Q) :
    rInDic neg x y H Q ∨ (∃ p xs, y = .ref p ∧ (SqL X.K H p xs ∨ SqT X.K H p xs) ∧ flatV x = true ∧ xs.all flatV = true ∧ Q (.bl (neg ^^ inV x xs)) H) ∨
      (∃ d ds, Dp X.K H x d ∧ Dp X.K H y (.list ds) ∧ PySem.SeqAt.shaped d = true ∧ PySem.SeqAt.shaped (.list ds) = true ∧ Q (.bl (neg ^^ ds.any fun z => PyData.eqv z d)) H) ∨
      ∃ (c : Nat) (z : Str), x = .str ⟨#[c]⟩ ∧ y = .str z ∧ Q (.bl (neg ^^ decide (c ∈ z.cps.toList))) H := by
  have seq : ∀ {p : Addr} {xs : List EV} {vs : List V}, y = .ref p → (SqL X.K H p vs ∨ SqT X.K H p vs) → RelEs X.K m h.length H xs vs → (inSq neg v xs fun b => P b h) →
      ∃ p xs, y = .ref p ∧ (SqL X.K H p xs ∨ SqT X.K H p xs) ∧ flatV x = true ∧ xs.all flatV = true ∧ Q (.bl (neg ^^ inV x xs)) H := by
    intro p xs vs ey hs r ⟨f1, f2, q⟩
    have e1 := flat_rel f1 rx
    have e2 := flats_rel f2 r
    subst e1 e2
    refine ⟨p, _, ey, hs, toV_flat f1, ?_, by rw [inF_V f1 f2]; exact k.same R q (by rw [RelE])⟩
    rw [List.all_map]
    rw [List.all_eq_true] at f2 ⊢
    exact fun z hz => toV_flat (f2 z hz)
  unfold inA at q
  split at q
  · rw [RelE] at ry
    obtain ⟨a, vs, rfl, hs, r⟩ := ry
    exact .inr (.inl (seq rfl (.inr (SqT.of hs)) r q))
  · rw [RelE] at ry
    obtain ⟨a, vs, rfl, hs, r⟩ := ry
    exact .inr (.inl (seq rfl (.inr hs) r q))
  · split at q
    · rw [RelE] at rx ry
      refine .inr (.inr (.inr ⟨_, _, rx, ry, ?_⟩))
      have := k.same R q (by rw [RelE])
      simpa using this
    · exact q.elim
  · have ry0 := ry
    rw [RelE] at ry
    obtain ⟨_, rfl⟩ := ry
    split at q
    · rename_i e
      obtain ⟨l, a, r⟩ := R.obj _ _ e
      obtain ⟨hk, q⟩ := q
      obtain ⟨k', rfl⟩ := key_of hk rx
      refine .inl ⟨_, _, rfl, DGet.k a, ?_⟩
      rw [RelKV.has rx hk r]
      exact k.same R q (by rw [RelE])
    · rename_i e
      obtain ⟨l, a, r⟩ := R.obj _ _ e
      obtain ⟨hk, q⟩ := q
      obtain ⟨k', b, ek, rfl, hb⟩ := keyT_of hk rx
      refine .inl ⟨_, _, rfl, DGet.t a hb, ?_⟩
      rw [RelKT.has ek r]
      exact k.same R q (by rw [RelE])
    · rename_i e
      obtain ⟨vs, a, r⟩ := R.obj _ _ e
      rcases q with q | ⟨d, ds, d1, d2, s1, s2, q⟩
      · exact .inr (.inl (seq rfl (.inl (SqL.of a)) r q))
      · exact .inr (.inr (.inl ⟨d, ds, Dat.dp R _ _ _ _ d1 rx, Dat.dp R (.list ds) 60 _ _ (.lst e d2) ry0, s1, s2, k.same R q (by rw [RelE])⟩))
    · rename_i e
      obtain ⟨vs, a, r⟩ := R.obj _ _ e
      exact .inr (.inl (seq rfl (.inl a.sql) r q))
    · exact q.elim
  · exact q.elim
theorem lo_in (hu : X.A.units + 65 < cLine) : LOpR X (compareOp .In) (inA false) := by
  have od : OpR X (compareOp .In) (rInDic false) := by
    intro pins s σ H x y v u Q I rx ry ⟨a, o, ey, g, q⟩
    subst ey
    obtain rfl : u = Value.ref a := ry
    exact d_in (by omega) I g rx fun s3 I3 => ⟨.bl o.isSome, H, I3, rfl, by simpa using q⟩
  refine ⟨_, OpR.or od (OpR.or op_in_seq (OpR.or (op_inD hu) op_in_sign)), fun m h H v w x y P Q R rx ry q k => ?_⟩
  rcases inA_sim R rx ry q k with q | ⟨p, xs, e, a, b, c, q⟩ | ⟨d, ds, a, b, c, e, q⟩ | ⟨c, z, e1, e2, q⟩
  · exact .inl q
  · exact .inr (.inl ⟨p, xs, e, a, b, c, by simpa using q⟩)
  · exact .inr (.inr (.inl ⟨d, ds, a, b, c, e, by simpa using q⟩))
  · exact .inr (.inr (.inr ⟨c, z, e1, e2, by simpa using q⟩))
theorem lo_nin (hu : X.A.units + 65 < cLine) : LOpR X (compareOp .NotIn) (inA true) := by
  have od : OpR X (compareOp .NotIn) (rInDic true) := by
    intro pins s σ H x y v u Q I rx ry ⟨a, o, ey, g, q⟩
    subst ey
    obtain rfl : u = Value.ref a := ry
    exact d_notIn (by omega) I g rx fun s3 I3 => ⟨.bl (!o.isSome), H, I3, rfl, by simpa using q⟩
  refine ⟨_, OpR.or od (OpR.or op_notIn_seq (OpR.or (op_notInD hu) op_notIn_sign)), fun m h H v w x y P Q R rx ry q k => ?_⟩
  rcases inA_sim R rx ry q k with q | ⟨p, xs, e, a, b, c, q⟩ | ⟨d, ds, a, b, c, e, q⟩ | ⟨c, z, e1, e2, q⟩
  · exact .inl q
  · exact .inr (.inl ⟨p, xs, e, a, b, c, by simpa using q⟩)
  · exact .inr (.inr (.inl ⟨d, ds, a, b, c, e, by simpa using q⟩))
  · exact .inr (.inr (.inr ⟨c, z, e1, e2, by simpa using q⟩))
end
end Y

namespace Y
open PySem PySem.Spec PyProof.Rows L2

def lDnew : LT := fun _ h P => P (.ref h.length) (h ++ [.dic []])
def setA (o i v : EV) (h : EH) (P : EH → Prop) : Prop := match o with
  | .ref r => match h[r]? with
    | some (.dic kvs) => isKey i ∧ kvs.length < sizeLine ∧ P (h.set r (.dic (dPut kvs i v)))
    | some (.dct kvs) => isKeyT i ∧ kvs.length < sizeLine ∧ P (h.set r (.dct (dPutT kvs i v)))
    | _ => setE o i v h P
  | _ => setE o i v h P
def rSetA : TSet := fun x y z H Q => rSetL x y z H Q ∨ ∃ a H4, x = .ref a ∧ DPut H a y z H4 ∧ Q H4
section
variable {X : Cx} {pos : Pos}
theorem le_dnew : LE X (.Dict [] [] pos) lDnew := by
  refine ⟨PE.imp pe_dnewK fun σ H Q ⟨m, env, h, P, at_, t1, k⟩ p hp => ?_⟩
  have E : Ex X.K m h.length H (mput m h.length p) (h ++ [EO.dic []]).length (upd H p (.dK [])) := Ex.new hp
  have R : RelH X.K (mput m h.length p) (h ++ [EO.dic []]) (upd H p (.dK [])) := at_.hp.new hp ⟨[], upd_same, rfl⟩
  exact k _ _ t1 _ _ _ E R (by rw [RelE]; exact ⟨by simp, by rw [mput_at]⟩)
theorem set_any (hu : X.A.units + 1 < cLine) : PSet X rSetA := by
  intro pins s σ H o i v ov iv u Q I ro ri rv h
  rcases h with h | ⟨a, H4, rfl, g, q⟩
  · exact set_list pins s σ H o i v ov iv u Q I ro ri rv h
  · obtain rfl : ov = Value.ref a := ro
    exact d_setItem hu I g ri rv fun s4 I4 => ⟨H4, I4, q⟩
theorem setA_sim {K : PySem.W.Frag} {m : Nat → Addr} {h : EH} {H : Hp} {o i v : EV} {x y z : V} {P : EH → Prop} {Q : Hp → Prop} (R : RelH K m h H) (rx : RelE K m h.length H o x) (ry : RelE K m h.length H i y) (rz : RelE K m h.length H v z) (q : setA o i v h P)
    (k : ∀ h', P h' → ∀ H', Ex K m h.length H m h'.length H' → RelH K m h' H' → Q H') : rSetA x y z H Q := by
  unfold setA at q
  split at q
  · split at q
    · rename_i kvs e
      rw [RelE] at rx
      obtain ⟨_, rfl⟩ := rx
      obtain ⟨hk, hl, q⟩ := q
      obtain ⟨l, a, r⟩ := R.obj _ _ e
      obtain ⟨k', rfl⟩ := key_of hk ry
      have ll := RelKV.length r
      refine .inr ⟨_, _, rfl, DPut.k a (by omega), ?_⟩
      have E := Ex.write (o := .dK (putK l k' z)) (e' := EO.dic (dPut kvs i v)) R e
      exact k _ q _ E (R.write e ⟨_, upd_same, RelKV.put (RelE.ex E _ _ ry) hk (RelE.ex E _ _ rz) (r.ex E)⟩)
    · rename_i kvs e
      rw [RelE] at rx
      obtain ⟨_, rfl⟩ := rx
      obtain ⟨hk, hl, q⟩ := q
      obtain ⟨l, a, r⟩ := R.obj _ _ e
      obtain ⟨k', b, ek, rfl, hb⟩ := keyT_of hk ry
      have ll := RelKT.length r
      refine .inr ⟨_, _, rfl, DPut.t a hb (by omega), ?_⟩
      have E := Ex.write (o := .dT (putK l k' z)) (e' := EO.dct (dPutT kvs i v)) R e
      exact k _ q _ E (R.write e ⟨_, upd_same, RelKT.put ek (RelE.ex E _ _ rz) (r.ex E)⟩)
    · exact .inl (set_sim R rx ry rz q k)
  · exact .inl (set_sim R rx ry rz q k)
def lSetA (to ti te : LT) : LS := fun D env h => te env h fun v h1 => to env h1 fun o h2 => ti env h2 fun i h3 => setA o i v h3 fun h4 => D.nx env h4
theorem ls_setA {o i e : Expr} {to ti te : LT} {tpos : Pos} (hu : X.A.units + 1 < cLine) (he : LE X e te) (ho : LE X o to) (hi : LE X i ti) (ha : ∀ v, assign (.Subscript o i tpos) X.env v = (do
      let ov ← holding [v] (eval o X.env)
      let iv ← holding [v, ov] (eval i X.env)
      standAt tpos
      holding [v, ov, iv] (setItem ov iv v)
      release [v, ov, iv] []) := by intro _; rfl) (hs : swapsWithSole [.Subscript o i tpos] e pos.line X.env = pure false := by rfl) (hw : swappedStores [.Subscript o i tpos] e X.env = pure none := by rfl)
    (h1 : (assignEach [.Subscript o i tpos] X.env).map (·.2) = [assign (.Subscript o i tpos) X.env] := by rfl) : LSt X (.Assign [.Subscript o i tpos] e pos) (lSetA to ti te) :=
  ⟨PS.imp (ps_asg he.pe (pg_sub ho.pe hi.pe (set_any hu) ha) hs hw h1) fun D σ H ⟨m, env, h, P, at_, t1, k⟩ => ⟨m, env, h, _, at_, t1, fun v h1 p1 m1 H1 x E1 R1 r1 =>
    ⟨m1, env, h1, _, at_.ex E1 R1, p1, fun o h2 p2 m2 H2 y E2 R2 r2 => ⟨m2, env, h2, _, (at_.ex E1 R1).ex E2 R2, p2, fun i h3 p3 m3 H3 z E3 R3 r3 =>
      setA_sim R3 (RelE.ex E3 _ _ r2) r3 (RelE.ex (E2.trans E3) _ _ r1) p3 fun h4 p4 H4 E4 R4 => k.nx _ _ p4 m3 H4 σ (((E1.trans E2).trans E3).trans E4) ((((at_.ex E1 R1).ex E2 R2).ex E3 R3).ex E4 R4)⟩⟩⟩⟩
def itemsE (v : EV) (h : EH) (P : List EV → Prop) : Prop := match v with
  | .tup xs => P xs
  | .ref r => match h[r]? with
    | some (.lst xs) => P xs
    | some (.frz xs) => P xs
    | _ => False
  | _ => False
def lStar (te : LT) (t : LA) : LA := fun env h P => te env h fun v h1 => itemsE v h1 fun xs => t env h1 fun ys h2 => P (xs ++ ys) h2
theorem la_star {e : Expr} {es : List Expr} {te : LT} {t : LA} {p : Pos} (he : LE X e te) (hr : LAs X es t) (hs : starEach (.Starred e p :: es) X.env = (true, eval e X.env) :: starEach es X.env := by rfl) : LAs X (.Starred e p :: es) (lStar te t) := by
  refine ⟨PA.imp (StX.pa_star he.pe hr.pa hs) fun σ H Q ⟨m, env, h, P, at_, t1, k⟩ => ⟨m, env, h, _, at_, t1, fun v h1 p1 m1 H1 x E1 R1 r1 => ?_⟩⟩
  have fin : ∀ {xs : List EV} {a : Addr} {vs : List V}, x = .ref a → (SqT X.K H1 a vs ∨ SqL X.K H1 a vs) → RelEs X.K m1 h1.length H1 xs vs → (t env h1 fun ys h2 => P (xs ++ ys) h2) →
      ∃ p ws, x = .ref p ∧ (SqT X.K H1 p ws ∨ SqL X.K H1 p ws) ∧ upA X.K t σ H1 fun ys H2 => Q (ws ++ ys) H2 := by
    intro xs a vs ex hs r q
    exact ⟨a, vs, ex, hs, m1, env, h1, _, at_.ex E1 R1, q, fun ys h2 p2 m2 H2 ws E2 R2 r2 => k _ _ p2 m2 H2 _ (E1.trans E2) R2 ((RelEs.ex E2 _ _ r).app r2)⟩
  unfold itemsE at p1
  split at p1
  · rw [RelE] at r1
    obtain ⟨a, vs, rfl, hs, r⟩ := r1
    exact fin rfl (.inl (SqT.of hs)) r p1
  · rw [RelE] at r1
    obtain ⟨_, rfl⟩ := r1
    split at p1
    · rename_i e
      obtain ⟨vs, a, r⟩ := R1.obj _ _ e
      exact fin rfl (.inr (SqL.of a)) r p1
    · rename_i e
      obtain ⟨vs, a, r⟩ := R1.obj _ _ e
      exact fin rfl (.inr a.sql) r p1
    · exact p1.elim
  · exact p1.elim
def minE : LC := fun vs h P => match vs with
  | [.ref r] => match h[r]? with
    | some (.lst xs) => ∃ ns : List Int, xs = ns.map EV.int ∧ ns ≠ [] ∧ ∀ m, m ∈ ns → (∀ y ∈ ns, m ≤ y) → P (.int m) h
    | _ => False
  | [.int i, .int j] => P (.int (if j < i then j else i)) h
  | _ => False
theorem lc_min (hc : X.calm = true) : LCallR X (.builtin "min") minE := by
  refine ⟨_, CallR.or (cr_min hc) (call_min2 hc), fun m h H vs xs P Q R r0 q k => ?_⟩
  unfold minE at q
  split at q
  · obtain ⟨v, rfl, r⟩ := r0.one_inv
    rw [RelE] at r
    obtain ⟨_, rfl⟩ := r
    split at q
    · rename_i e
      obtain ⟨us, a, r⟩ := R.obj _ _ e
      obtain ⟨ns, rfl, ne, q⟩ := q
      have := r.ints
      subst this
      exact .inl ⟨_, ns, rfl, SqL.of a, List.length_pos_iff.mpr ne, fun z h1 h2 => k.same R (q z h1 h2) (by rw [RelE])⟩
    · exact q.elim
  · obtain ⟨v, w, rfl, r1, r2⟩ := r0.two_inv
    rw [RelE] at r1
    rw [RelE] at r2
    subst r1 r2
    exact .inr ⟨_, _, rfl, k.same R q (by rw [RelE])⟩
  · exact q.elim
end
end Y

namespace Y
open PySem PySem.Spec PyProof.Rows L2

section
variable {X : Cx} {pos : Pos}
theorem up_lc (own : List (Str × Nat)) {ti : LI} {p : Pat} {tt : LTt} {te : LT} (hp : ∀ i ∈ Pat.slots p, i ∈ own.map (·.2)) (σ : L2.St) (H : Hp) (Q : VK) (q : up X.K (lLc ti p tt te (own.map (·.2))) σ H Q) :
    tLc (upI X.K ti) (gP X.K p) (upT X.K tt) (up X.K te) (own.map (·.2)) σ H Q := by
  obtain ⟨m, env, h, P, at_, t1, k⟩ := q
  refine ⟨m, env, h, _, at_, t1, fun g xs h1 p1 m1 H1 J E1 R1 sim D hD => ?_⟩
  have E2 : Ex X.K m1 h1.length H1 (mput m1 h1.length D) (h1 ++ [EO.lst []]).length (upd H1 D (.lst [])) := Ex.new hD
  have R2 : RelH X.K (mput m1 h1.length D) (h1 ++ [EO.lst []]) (upd H1 D (.lst [])) := R1.new hD ⟨[], upd_same, .nil⟩
  refine ⟨fun i c H' => c = xs.length - i ∧ i ≤ xs.length ∧ ∃ m2 h2, Ex X.K m1 h1.length H1 m2 h2.length H' ∧ RelH X.K m2 h2 H' ∧ m2 h1.length = D ∧ h1.length < h2.length ∧ lcE g p tt te h1.length (wipeE env (own.map (·.2))) P (xs.drop i) h2,
    ⟨xs.length, by simp, Nat.zero_le _, _, _, E2, R2, mput_at, by simp, by simpa using p1⟩, ?_⟩
  rintro i c H' ⟨rfl, hi, m2, h2, E3, R3, eD, lD, q⟩
  by_cases hlt : i < xs.length
  · have ed : xs.drop i = xs[i] :: xs.drop (i + 1) := List.drop_eq_getElem_cons hlt
    rw [ed, lcE] at q
    obtain ⟨qg, q⟩ := q
    obtain ⟨s1, s2⟩ := sim i h2 m2 H' E3 R3 qg
    obtain ⟨go, yl⟩ := s1 xs[i] (List.getElem?_eq_getElem hlt)
    refine .inr ⟨go, fun H4 => ∃ m4 h4, Ex X.K m1 h1.length H1 m4 h4.length H4 ∧ RelH X.K m4 h4 H4 ∧ m4 h1.length = D ∧ h1.length < h4.length ∧ lcE g p tt te h1.length (wipeE env (own.map (·.2))) P (xs.drop (i + 1)) h4,
      fun H4 q4 => ⟨xs.length - (i + 1), by omega, rfl, hlt, q4⟩, fun v H4 y => ?_⟩
    obtain ⟨E4, R4, r4⟩ := yl v H4 y
    have E14 := (E1.trans E3).trans E4
    obtain ⟨env5, σ5, q5, f, N5, keep, len⟩ := bind_sim R4 ((at_.nm.ex E14).wipe (own.map (·.2))) r4 q
    refine f _ ⟨wipe_back (ss := Pat.slots p) keep hp (by rw [len, wipe_length]), m2, env5, h2, _, ⟨R4, N5⟩, q5, fun b h6 p6 m6 H6 E6 R6 => ?_⟩
    have E16 := (E3.trans E4).trans E6
    have lt2 := E6.le
    have eD6 : m6 h1.length = D := (E6.eq _ lD).trans eD
    cases b with
    | false =>
      dsimp only
      rw [if_neg Bool.false_ne_true] at p6 ⊢
      exact ⟨m6, h6, E16, R6, eD6, by omega, p6⟩
    | true =>
      dsimp only
      rw [if_pos rfl] at p6 ⊢
      refine ⟨m6, env5, h6, _, ⟨R6, N5.ex E6⟩, p6, fun w h7 p7 m7 H7 y7 E7 R7 r7 => ?_⟩
      have lt7 := E7.le
      have eD7 : m7 h1.length = D := (E7.eq _ (by omega)).trans eD6
      split at p7
      · rename_i acc e7
        obtain ⟨vs, a, r⟩ := R7.obj _ _ e7
        rw [eD7] at a
        refine ⟨vs, a, by rw [← r.length]; exact p7.1, ?_⟩
        have E8 := Ex.write (o := .lst (vs ++ [y7])) (e' := EO.lst (acc ++ [w])) R7 e7
        have R8 := R7.write (o := .lst (vs ++ [y7])) (e' := EO.lst (acc ++ [w])) e7 ⟨_, upd_same, (RelEs.ex E8 _ _ r).app (.one (RelE.ex E8 _ _ r7))⟩
        rw [eD7] at E8 R8
        exact ⟨m7, _, (E16.trans E7).trans E8, R8, eD7, by simp; omega, p7.2⟩
      · exact p7.elim
  · have e : i = xs.length := by omega
    subst e
    rw [List.drop_length, lcE] at q
    obtain ⟨_, s2⟩ := sim xs.length h2 m2 H' E3 R3 q.1
    refine .inl ⟨s2 rfl, k _ _ q.2 m2 H' _ (E1.trans E3) R3 (by rw [RelE]; exact ⟨lD, by rw [eD]⟩)⟩
theorem ls_setLc (i : Nat) {y : Str} {py : Pos} {elt tg iter : Expr} {ifs : List Expr} {scope : Scope} (own : List (Str × Nat)) {spos : Pos} {ti : LI} {p : Pat} {tt : LTt} {te : LT} (hc : X.calm = true) (hN : X.N.Nodup) (hi : LIt X tg iter ti) (ok : BlkOk X.N X.env.scope scope own)
    (hp : ∀ i ∈ Pat.slots p, i ∈ own.map (·.2))
    (hg : ∀ (s : Shared) (H : Hp) (C : Addr) (cl : List (Str × Addr)) (fp : List Addr), LG (X.blk s H scope (compEnvC scope cl C X.env) fp) tg p)
    (ht : ∀ (s : Shared) (H : Hp) (C : Addr) (cl : List (Str × Addr)) (fp : List Addr), LTs (X.blk s H scope (compEnvC scope cl C X.env) fp) ifs tt)
    (he : ∀ (s : Shared) (H : Hp) (C : Addr) (cl : List (Str × Addr)) (fp : List Addr), LE (X.blk s H scope (compEnvC scope cl C X.env) fp) elt te) (hy : X.N[i]? = some y := by rfl) (hyl : X.env.scope.names.lookup y = some .local := by rfl)
    (hsw : swapsWith (.ListComp elt [⟨tg, iter, ifs, 0⟩] scope pos) (some (.Name y py)) spos.line X.env = pure true := by exact sw_true rfl rfl rfl (by decide +kernel)) (hs : ∀ x, foldedSetIterable iter X.env x = pure x := by intro _; rfl) :
    LSt X (.Assign [.Name y py] (.ListComp elt [⟨tg, iter, ifs, 0⟩] scope pos) spos) (lSet (lLc ti p tt te (own.map (·.2))) i) :=
  ⟨PS.imp (ps_setLc (g := gP X.K p) (tt := upT X.K tt) (te := up X.K te) hc hN hy hyl hsw hi.pi ok (fun s H C cl fp => (hg s H C cl fp).pg) (fun s H C cl fp => (ht s H C cl fp).pts) (fun s H C cl fp => (he s H C cl fp).pe) hs) fun D σ H ⟨m, env, h, P, at_, t1, k⟩ =>
    up_lc own hp σ H _ ⟨m, env, h, fun v h1 => P.nx (env.set i (some v)) h1, at_, t1, fun v h1 p1 m1 H1 x E1 R1 r1 => k.nx _ _ p1 m1 H1 _ E1 ⟨R1, (at_.nm.ex E1).set r1 i⟩⟩⟩
end
section
variable {X : Cx} {pos : Pos}
end
end Y

namespace Y
open PySem PySem.Spec PyProof.Rows L2

section
variable {X : Cx}
end
end Y

namespace Y
open PySem PySem.Spec PyProof.Rows L2

def putO (i : Nat) (v : EV) (vs : List (Option EV)) : List (Option EV) := (vs ++ List.replicate (i + 1 - vs.length) Option.none).set i (some v)
theorem putO_get (i : Nat) (v : EV) (vs : List (Option EV)) : (putO i v vs)[i]? = some (some v) := by
  unfold putO
  exact List.getElem?_set_self (by simp only [List.length_append, List.length_replicate]; omega)
theorem putO_ne {i j : Nat} {v x : EV} {vs : List (Option EV)} (h : j ≠ i) : (putO i v vs)[j]? = some (some x) ↔ vs[j]? = some (some x) := by
  unfold putO
  rw [List.getElem?_set_ne (Ne.symm h)]
  by_cases hj : j < vs.length
  · rw [List.getElem?_append_left hj]
  · have e1 : vs[j]? = Option.none := List.getElem?_eq_none_iff.mpr (by omega)
    rw [e1, List.getElem?_append_right (by omega), List.getElem?_replicate]
    constructor
    · intro q
      split at q <;> cases q
    · intro q
      cases q
section
variable {K : PySem.W.Frag} {m : Nat → Addr} {n : Nat} {H : Hp}
theorem sqT_upd3 {a p : Addr} {xs : List V} {o : HO} (h : SqT K H a xs) (hp : ∀ u, H p = some u → (∀ ys, u ≠ .tup ys) ∧ ∀ q ys, u ≠ .frz q (.tup ys)) : SqT K (upd H p o) a xs := by
  rcases h with h | h
  · refine .inl ?_
    have ne : a ≠ p := by
      rintro rfl
      rcases h with h | ⟨q, h⟩
      · exact (hp _ h).1 _ rfl
      · exact (hp _ h).2 _ _ rfl
    rcases h with h | ⟨q, h⟩
    · exact .inl (by rw [upd_ne ne]; exact h)
    · exact .inr ⟨q, by rw [upd_ne ne]; exact h⟩
  · exact .inr h
theorem tk_upd3 {H : Hp} {a p : Addr} {xs : List V} {o : HO} (h : H a = some (.tup xs)) (hp : ∀ u, H p = some u → ∀ ys, u ≠ .tup ys) : upd H p o a = some (.tup xs) := by
  have ne : a ≠ p := by
    rintro rfl
    exact hp _ h _ rfl
  rw [upd_ne ne]; exact h
theorem RelH.slot {h : EH} {r C dx : Nat} {vs : List (Option EV)} {ws : List (Option V)} {i : Nat} {v : EV} {x : V} (R : RelH K m h H) (hr : h[r]? = some (.slo C vs)) (S : SlX.Slt H (m r) C dx ws) (ne : dx ≠ m r) (hd : H dx = some (.own (m r)) ∨ H dx = some (.xd []))
    (rw' : ∀ (j : Nat) (v : EV), vs[j]? = some (some v) → ∃ w, ws[j]? = some (some w) ∧ RelE K m h.length H v w) (rx : RelE K m h.length H v x) :
    Ex K m h.length H m (h.set r (.slo C (putO i v vs))).length (SlX.slH H (m r) C dx (SlX.putS i x ws)) ∧ RelH K m (h.set r (.slo C (putO i v vs))) (SlX.slH H (m r) C dx (SlX.putS i x ws)) := by
  have hlt := (List.getElem?_eq_some_iff.mp hr).1
  have tops := R.tops hr
  have E : Ex K m h.length H m (h.set r (.slo C (putO i v vs))).length (SlX.slH H (m r) C dx (SlX.putS i x ws)) := by
    refine ⟨by simp, fun _ _ => rfl, fun a xs q => ?_, fun a xs q => ?_⟩
    · unfold SlX.slH
      refine sqT_upd3 (sqT_upd3 q fun u hu => ?_) fun u hu => ?_
      · rcases hd with z | z <;> rw [z] at hu <;> cases hu <;> exact ⟨fun _ z => (nomatch z), fun _ _ z => nomatch z⟩
      · rw [upd_ne (Ne.symm ne)] at hu
        exact ⟨(tops u hu).1, (tops u hu).2.1⟩
    · unfold SlX.slH
      refine tk_upd3 (tk_upd3 q fun u hu => ?_) fun u hu => ?_
      · rcases hd with z | z <;> rw [z] at hu <;> cases hu <;> exact fun _ z => nomatch z
      · rw [upd_ne (Ne.symm ne)] at hu
        exact (tops u hu).1
  refine ⟨E, ?_⟩
  have set_cases : ∀ {q : Nat} {u e' : EO}, (h.set r e')[q]? = some u → (q = r ∧ u = e') ∨ (q ≠ r ∧ h[q]? = some u) := fun {q u e'} hq => by
    by_cases z : r = q
    · subst z
      rw [List.getElem?_set_self hlt] at hq
      cases hq
      exact .inl ⟨rfl, rfl⟩
    · rw [List.getElem?_set_ne z] at hq
      exact .inr ⟨fun y => z y.symm, hq⟩
  refine ⟨fun q u hq => ?_, fun q p u v hq hp fu fv z => ?_⟩
  · rcases set_cases hq with ⟨rfl, rfl⟩ | ⟨z, hq⟩
    · have io := (R.obj _ _ hr).1
      refine ⟨io, dx, _, SlX.slH_slt ne, ne, .inr ?_, fun j y hj => ?_⟩
      · unfold SlX.slH
        rw [upd_ne ne, upd_same]
      · by_cases e : j = i
        · subst e
          rw [putO_get] at hj
          cases hj
          exact ⟨x, SlX.putS_get _ _ _, RelE.ex E _ _ rx⟩
        · obtain ⟨w, ew, r1⟩ := rw' j y ((putO_ne e).mp hj)
          exact ⟨w, (SlX.putS_ne e).mpr ew, RelE.ex E _ _ r1⟩
    · have Rq := R.obj q u hq
      have off : isF u = false → m q ≠ m r := fun fu y => z (R.inj q r u _ hq hr fu rfl y)
      by_cases fu : isF u = false
      · obtain ⟨c, hc, nt⟩ := Rq.there fu
        have nd : m q ≠ dx := by
          intro y
          rw [y] at hc
          rcases hd with z | z <;> rw [z] at hc <;> cases hc
          · exact nt.2.2.2.2 _ rfl
          · exact nt.2.2.2.1 _ rfl
        refine Rq.ex E (SlX.slH_ne (off fu) nd) fun b => ⟨fun e => ?_, fun e => ?_⟩
        · have nb : b ≠ m r := by
            rintro rfl
            exact (tops _ e).2.2.2.1 _ rfl
          unfold SlX.slH
          rw [upd_ne nb]
          by_cases y : b = dx
          · rw [y, upd_same]
          · rw [upd_ne y]; exact e
        · have nb : b ≠ m r := by
            rintro rfl
            exact (tops _ e).2.2.2.2 _ rfl
          have nd : b ≠ dx := by
            rintro rfl
            rcases hd with z | z
            · rw [z] at e
              injection e with e
              injection e with e
              exact off fu e.symm
            · rw [z] at e
              cases e
          rw [SlX.slH_ne nb nd]
          exact e
      · cases u with
        | frz xs =>
          obtain ⟨us, e, r1⟩ := Rq
          refine ⟨us, ?_, RelEs.ex E _ _ r1⟩
          rcases e with ⟨o, e⟩ | e
          · refine .inl ⟨o, ?_⟩
            have nb : m q ≠ m r := by
              intro y
              rw [y] at e
              exact (tops _ e).2.2.1 _ _ rfl
            have nd : m q ≠ dx := by
              intro y
              rw [y] at e
              rcases hd with z | z <;> rw [z] at e <;> cases e
            rw [SlX.slH_ne nb nd]
            exact e
          · exact .inr e
        | xob fs =>
          obtain ⟨l, e, r1⟩ := Rq
          refine ⟨l, ?_, RelFs.ex E _ _ r1⟩
          have nb : m q ≠ m r := by
            intro y
            rw [y] at e
            exact (tops _ e).2.2.2.1 _ rfl
          by_cases nd : m q = dx
          · rw [nd] at e ⊢
            rcases hd with z | z
            · rw [z] at e; cases e
            · rw [z] at e
              cases e
              unfold SlX.slH
              rw [upd_ne ne, upd_same]
          · rw [SlX.slH_ne nb nd]
            exact e
        | mark m0 n0 H0 => exact Ex.trans Rq E
        | _ => exact absurd rfl fu
  · rcases set_cases hq with ⟨a, a'⟩ | ⟨a, hq'⟩ <;> rcases set_cases hp with ⟨b, b'⟩ | ⟨b, hp'⟩
    · rw [a, b]
    · rw [a] at z; exact absurd (R.inj p r v _ hp' hr fv rfl z.symm) b
    · rw [b] at z; exact absurd (R.inj q r u _ hq' hr fu rfl z) a
    · exact R.inj q p u v hq' hp' fu fv z
end
abbrev STab := List (Addr × Nat)
def attrE (tab : STab) (v : EV) (h : EH) (P : EV → Prop) : Prop := match v with
  | .ref r => match h[r]? with
    | some (.slo C vs) => match tab.lookup C with
      | some i => match vs[i]? with
        | some (some x) => P x
        | _ => False
      | none => False
    | _ => False
  | _ => False
def lAttr (tab : STab) (to : LT) : LT := fun env h P => to env h fun v h1 => attrE tab v h1 fun x => P x h1
def SlotOf (K : PySem.W.Frag) (f : Str) (tab : STab) : Prop := ∀ q ∈ tab, SlX.SCls K q.1 ∧ ∃ p, SlX.Slot1 K q.1 f p q.2
def lSetAt (tab : STab) (to tv : LT) : LS := fun D env h => tv env h fun v h1 => to env h1 fun o h2 => match o with
  | .ref r => match h2[r]? with
    | some (.slo C vs) => match tab.lookup C with
      | some i => D.nx env (h2.set r (.slo C (putO i v vs)))
      | none => False
    | _ => False
  | _ => False
section
variable {X : Cx} {pos pos' apos : Pos} {o e : Expr} {es : List Expr} {to te : LT} {t : LA} {f x : Str}
theorem le_attr {tab : STab} (T : SlotOf X.K f tab) (he : LE X e te) (hb : attributeBase e f X.env (eval e X.env) = eval e X.env := by rfl) : LE X (.Attribute e f pos) (lAttr tab te) := by
  refine ⟨PE.imp (SlX.pe_sl he.pe hb) fun σ H Q ⟨m, env, h, P, at_, t1, k⟩ => ⟨m, env, h, _, at_, t1, fun v h1 p1 m1 H1 x E1 R1 r1 => ?_⟩⟩
  unfold attrE at p1
  split at p1
  · rw [RelE] at r1
    obtain ⟨_, rfl⟩ := r1
    split at p1
    · rename_i C vs e
      obtain ⟨_, dx, ws, s, _, _, r⟩ := R1.obj _ _ e
      split at p1
      · rename_i i ei
        obtain ⟨c, p, sl⟩ := T _ (lookup_mem ei)
        split at p1
        · rename_i y ey
          obtain ⟨w, ew, rw'⟩ := r _ _ ey
          exact ⟨_, C, dx, p, ws, i, w, rfl, s, c, sl, ew, k _ _ p1 m1 H1 _ E1 R1 rw'⟩
        · exact p1.elim
      · exact p1.elim
    · exact p1.elim
  · exact p1.elim
theorem ls_attr {tab : STab} (T : SlotOf X.K f tab) (ho : LE X o to) (hv : LE X e te) (hs : swapsWith e (some (.Attribute o f pos')) pos.line X.env = pure false := by rfl) : LSt X (.Assign [.Attribute o f pos'] e pos) (lSetAt tab to te) := by
  refine ⟨PS.imp (SlX.ps_sl ho.pe hv.pe hs) fun D σ H ⟨m, env, h, P, at_, t1, k⟩ => ⟨m, env, h, _, at_, t1, fun v h1 p1 m1 H1 x E1 R1 r1 => ⟨m1, env, h1, _, at_.ex E1 R1, p1, fun o h2 p2 m2 H2 y E2 R2 r2 => ?_⟩⟩⟩
  split at p2
  · rw [RelE] at r2
    obtain ⟨_, rfl⟩ := r2
    split at p2
    · rename_i C vs e
      obtain ⟨io, dx, ws, s, ne, hd, r⟩ := R2.obj _ _ e
      split at p2
      · rename_i i ei
        obtain ⟨c, p, sl⟩ := T _ (lookup_mem ei)
        have Z := R2.slot (i := i) e s ne hd r (RelE.ex E2 _ _ r1)
        exact ⟨_, C, dx, p, ws, i, rfl, s, c, sl, k.nx _ _ p2 m2 _ σ ((E1.trans E2).trans Z.1) (((at_.ex E1 R1).ex E2 R2).ex Z.1 Z.2)⟩
      · exact p2.elim
    · exact p2.elim
  · exact p2.elim
def lMake (C : Addr) (sp : LSp) (t : LA) : LT := fun env h P => t env h fun vs h1 => sp (.ref h1.length :: vs) (h1 ++ [.slo C []]) fun v h2 => v = .non ∧ P (.ref h1.length) h2
variable {k : Nat} {g C : Addr} {fd : FuncData} {ps : List Str} {sp : LSp} {p : Pos}
theorem guards_make {A : Around} (C : Addr) (us : List Value) (hG : A.guards = some []) : (A.under (.builtin "type.__call__" ⟨.ref C :: us, []⟩)).guards = some [] := by
  first | exact hG | simp [Around.under, Code.weight, Code.isCreation, Code.isGuard, Code.isCaller, Code.frames, Code.isFrame, guardIds, hG]
theorem runMk {pins : List (Addr × Obj)} {σ : L2.St} {H : Hp} {s : Shared} {Q : VK} {us : List Value} {vs : List V} (M : Mk X.K C g) (F : FnG X.prog X.w X.K X.mg X.base k g fd ps sp) (hr : Room (k + 1) X.A) (hG : X.A.guards = some []) (hb : Binds X.K fd ps [])
    (I : Inv X pins σ H s) (r : Vals vs us)
    (h : ∀ x dx, H x = none → H dx = none → dx ≠ x → upSp X.K sp (.ref x :: vs) (upd (upd H dx (.own x)) x (.ins C dx [])) (fun v H2 => v = .non ∧ Q (.ref x) H2)) :
    wpAny (model X.prog X.w) X.A (call (.ref C) us) (EP X pins σ Q) X.xe s := by
  have hq := h (s.heap.objs.size + 1) s.heap.objs.size (I.hok.fresh (Nat.le_succ _)) (I.hok.fresh (Nat.le_refl _)) (Nat.ne_of_lt (Nat.lt_succ_self _))
  have I2 := Inv.made (C := C) I
  have r2 : Vals (V.ref (s.heap.objs.size + 1) :: vs) (Value.ref (s.heap.objs.size + 1) :: us) := .cons rfl r
  have hl : (Value.ref (s.heap.objs.size + 1) :: us).length = ps.length := by
    have e := r2.length
    rw [upSp.len F.len hq] at e
    exact e.symm
  have b := hb _ (Value.ref (s.heap.objs.size + 1) :: us) I2.kIn (by rw [List.append_nil]; exact hl)
  rw [List.append_nil] at b
  refine wpAny_call (make_map (f := g) I.kIn M.makes M.init (beq_iff_eq.mp M.fn) (codeAny_mono (F.run _ X.stack _ _ ⟨Value.ref (s.heap.objs.size + 1) :: us, []⟩ (Value.ref (s.heap.objs.size + 1) :: us) _ _ (hr.make C us []) (guards_make C us hG)
    (I2.env0.make C us []) b r2 hq) fun r s' hq' => ?_))
  match r, hq' with
  | .error _, ho => exact ho.elim
  | .ok (.ret u), ho =>
    obtain ⟨v, H', I3, rv, ev, q3⟩ := I2.after ho
    subst ev
    exact ⟨rv, ⟨V.ref (s.heap.objs.size + 1), H', I3, rfl, q3⟩⟩
  | .ok .next, ho => exact ho.elim
  | .ok .brk, ho => exact ho.elim
  | .ok .cont, ho => exact ho.elim
theorem up_make {K : PySem.W.Frag} (io : IsiOk K C) (σ : L2.St) (H : Hp) (Q : VK) (q : up K (lMake C sp t) σ H Q) : upA K t σ H fun vs H1 => ∀ x dx, H1 x = none → H1 dx = none → dx ≠ x → upSp K sp (.ref x :: vs) (upd (upd H1 dx (.own x)) x (.ins C dx [])) (fun v H2 => v = .non ∧ Q (.ref x) H2) := by
  obtain ⟨m, env, h, P, at_, t1, k⟩ := q
  refine ⟨m, env, h, _, at_, t1, fun vs h1 p1 m1 H1 xs E1 R1 r1 x dx hx hdx ne => ?_⟩
  have E2 : Ex K m1 h1.length H1 m1 h1.length (upd H1 dx (.own x)) := Ex.tup1 hdx
  have R2 := R1.tup (o := .own x) hdx
  have hx2 : upd H1 dx (.own x) x = none := by rw [upd_ne (Ne.symm ne)]; exact hx
  have E3 : Ex K m1 h1.length (upd H1 dx (.own x)) (mput m1 h1.length x) (h1 ++ [EO.slo C []]).length (upd (upd H1 dx (.own x)) x (.ins C dx [])) := Ex.new hx2
  have R3 : RelH K (mput m1 h1.length x) (h1 ++ [EO.slo C []]) (upd (upd H1 dx (.own x)) x (.ins C dx [])) := R2.new hx2 ⟨io, dx, [], .inl ⟨upd_same, rfl⟩, ne, .inl (by rw [upd_ne ne, upd_same]), fun i v q => by simp at q⟩
  have E := E2.trans E3
  refine ⟨mput m1 h1.length x, _, _, _, R3, .cons (by rw [RelE]; exact ⟨by simp, by rw [mput_at]⟩) (RelEs.ex E _ _ r1), p1, fun v h2 p2 m2 H2 y E4 R4 r4 => ?_⟩
  obtain ⟨rfl, p2⟩ := p2
  rw [RelE] at r4
  refine ⟨r4, k _ _ p2 m2 H2 _ ((E1.trans E).trans E4) R4 ?_⟩
  have lt := E4.le
  simp only [List.length_append, List.length_singleton] at lt
  rw [RelE]
  refine ⟨by omega, ?_⟩
  rw [E4.eq h1.length (by simp), mput_at]
theorem le_make0 (io : IsiOk X.K C) (M : Mk X.K C g) (F : FnG X.prog X.w X.K X.mg X.base k g fd ps sp) (hr : Room (k + 1) X.A) (hG : X.A.guards = some []) (hg : Gl X x) (hm : X.mg x = some (.ref C)) (hb : Binds X.K fd ps [])
    (hdb : (x == ("__debug__" : Str)) = false := by decide) : LE X (.Call (.Name x p) [] [] pos) (lMake C sp lNil) := by
  refine ⟨⟨fun pins s σ H Q I q => wpAny_Call_Name_kw (ld_glob I hg hm (PySem.W.callWith_K0 I.kIn M.kp (runMk (us := []) (vs := []) M F hr hG hb I .nil ?_)) hdb)⟩⟩
  obtain ⟨m, env, h, P, at_, t1, kk⟩ := up_make io σ H Q q
  exact kk [] h t1 m H [] .refl at_.hp .nil
def MetOf (X : Cx) (m : Str) (mt : Addr → Option LSp) : Prop := ∀ C sp, mt C = some sp → SlX.SCls X.K C ∧ ∃ g k fd ps, Meth X.K C m g ∧ FnG X.prog X.w X.K X.mg X.base k g fd ps sp ∧ Room k X.A ∧ Binds X.K fd ps []
def metK (mt : Addr → Option LSp) (t : LA) (env : En) (P : EK) (v : EV) (h1 : EH) : Prop := match v with
  | .ref r => match h1[r]? with
    | some (.slo C _) => match mt C with
      | some sp => t env h1 fun vs h2 => sp (.ref r :: vs) h2 P
      | none => False
    | _ => False
  | _ => False
def lMet (mt : Addr → Option LSp) (to : LT) (t : LA) : LT := fun env h P => to env h fun v h1 => metK mt t env P v h1
theorem le_met0 {mt : Addr → Option LSp} {m : Str} {pl : Sem Bool} (T : MetOf X m mt) (hG : X.A.guards = some []) (ho : LE X o to)
    (ht : eval (.Call (.Attribute o m apos) [] [] pos) X.env = (do
      let ov ← eval o X.env
      standAt apos.atName
      let (f, first) ← holding [ov] (getMethod ov m pl)
      callWith pos f first (backTo pos (starEach [] X.env)) (backToKw pos (keywordEach [] X.env))) := by rfl) :
    LE X (.Call (.Attribute o m apos) [] [] pos) (lMet mt to lNil) := by
  refine ⟨⟨fun pins s σ H Q I ⟨mm, env, h, P, at_, t1, k⟩ => ?_⟩⟩
  have hq : up X.K to σ H (fun x H1 => ∃ m1 h1 v, metK mt lNil env P v h1 ∧ Ex X.K mm h.length H m1 h1.length H1 ∧ RelH X.K m1 h1 H1 ∧ RelE X.K m1 h1.length H1 v x) := ⟨mm, env, h, _, at_, t1, fun v h1 p1 m1 H1 x E1 R1 r1 => ⟨m1, h1, v, p1, E1, R1, r1⟩⟩
  refine PySem.W.methodCall_KW (pl := pl) (thn (ho.pe.run pins s σ H _ I hq) fun u s1 ⟨x, H1, I1, rx, m1, h1, v, p1, E1, R1, r1⟩ => ?_) ht
  unfold metK at p1
  split at p1
  · rename_i r
    have r0 := r1
    rw [RelE] at r1
    obtain ⟨hlt, rfl⟩ := r1
    split at p1
    · rename_i C vs e
      obtain ⟨_, dx, ws, sl, _, _, _⟩ := R1.obj _ _ e
      split at p1
      · rename_i sp es
        obtain ⟨c, g, kk, fd, ps, hm, F, hr, hb⟩ := T _ _ es
        obtain rfl : u = Value.ref (m1 r) := rx
        refine SlX.getmethsl_ok I1 sl c hm ?_
        exact PySem.W.callWith_K0 (first := [.ref (m1 r)]) I1.kIn hm.kp (runG (us := [.ref (m1 r)]) (vs := [.ref (m1 r)]) F hr hG hb I1 (.cons rfl .nil) ⟨m1, h1, _, P, R1, .one r0, p1, k.ex E1⟩)
      · exact p1.elim
    · exact p1.elim
  · exact p1.elim
end
end Y

namespace Y
open PySem PySem.Spec PyProof.Rows L2

def lLockE (t : LT) : LT := fun env h P => ∃ r kvs, h[r]? = some (.dic kvs) ∧ ∀ od l, t env (h.set r (.dlk od l kvs)) fun v h' => h'[r]? = some (.dlk od l kvs) ∧ P v (h'.set r (.dic kvs))
theorem le_lock {X : Cx} {e : Expr} {t : LT} (he : LE X e t) : LE X e (lLockE t) := by
  refine ⟨PE.imp (pe_lock he.pe) fun σ H Q ⟨m, env, h, P, at_, t1, k⟩ => ?_⟩
  obtain ⟨r, kvs, er, t1⟩ := t1
  obtain ⟨l, a, rl⟩ := at_.hp.obj _ _ er
  refine ⟨m r, .dK l, a, trivial, fun od => ?_⟩
  have E := Ex.write (o := .frz od (.dK l)) (e' := EO.dlk od l kvs) at_.hp er
  have R := at_.hp.write (o := .frz od (.dK l)) (e' := EO.dlk od l kvs) er ⟨upd_same, rl.ex E⟩
  refine ⟨m, env, _, _, at_.ex E R, t1 od l, fun v h' p m' H' x E' R' r' => ?_⟩
  have hr := lt_of_at er
  have em : m' r = m r := E'.eq r (by simpa using hr)
  obtain ⟨a', rl'⟩ := R'.obj _ _ p.1
  rw [em] at a'
  refine ⟨a', ?_⟩
  have E2 := Ex.write (o := .dK l) (e' := EO.dic kvs) R' p.1
  have R2 := R'.write (o := .dK l) (e' := EO.dic kvs) p.1 ⟨l, upd_same, rl'.ex E2⟩
  rw [em] at E2 R2
  exact k _ _ p.2 m' _ _ ((E.trans E').trans E2) R2 (RelE.ex E2 _ _ r')
def lLock (t : LS) : LS := fun D env h => ∃ r kvs, h[r]? = some (.dic kvs) ∧ ∀ od l, t { nx := fun e h' => h'[r]? = some (.dlk od l kvs) ∧ D.nx e (h'.set r (.dic kvs)), rt := fun v h' => h'[r]? = some (.dlk od l kvs) ∧ D.rt v (h'.set r (.dic kvs)), bk := fun e h' => h'[r]? = some (.dlk od l kvs) ∧ D.bk e (h'.set r (.dic kvs)), ct := fun e h' => h'[r]? = some (.dlk od l kvs) ∧ D.ct e (h'.set r (.dic kvs)) } env (h.set r (.dlk od l kvs))
theorem ls_lock {X : Cx} {st : Stmt} {t : LS} (hs : LSt X st t) : LSt X st (lLock t) := by
  refine ⟨PS.imp (ps_lock hs.ps) fun D σ H ⟨m, env, h, P, at_, t1, k⟩ => ?_⟩
  obtain ⟨r, kvs, er, t1⟩ := t1
  obtain ⟨l, a, rl⟩ := at_.hp.obj _ _ er
  refine ⟨m r, .dK l, a, trivial, fun od => ?_⟩
  have E := Ex.write (o := .frz od (.dK l)) (e' := EO.dlk od l kvs) at_.hp er
  have R := at_.hp.write (o := .frz od (.dK l)) (e' := EO.dlk od l kvs) er ⟨upd_same, rl.ex E⟩
  have hr := lt_of_at er
  have back : ∀ (h' : EH) (m' : Nat → Addr) (H' : Hp), h'[r]? = some (.dlk od l kvs) → Ex X.K m (h.set r (.dlk od l kvs)).length (upd H (m r) (.frz od (.dK l))) m' h'.length H' → RelH X.K m' h' H' →
      H' (m r) = some (.frz od (.dK l)) ∧ Ex X.K m' h'.length H' m' (h'.set r (.dic kvs)).length (upd H' (m r) (.dK l)) ∧ RelH X.K m' (h'.set r (.dic kvs)) (upd H' (m r) (.dK l)) := by
    intro h' m' H' p E' R'
    have em : m' r = m r := E'.eq r (by simpa using hr)
    obtain ⟨a', rl'⟩ := R'.obj _ _ p
    have E2 := Ex.write (o := .dK l) (e' := EO.dic kvs) R' p
    have R2 := R'.write (o := .dK l) (e' := EO.dic kvs) p ⟨l, upd_same, rl'.ex E2⟩
    rw [em] at a' E2 R2
    exact ⟨a', E2, R2⟩
  refine ⟨m, env, _, _, at_.ex E R, t1 od l, fun e' h' p m' H' σ' E' a' => ?_, fun v h' p m' H' x E' R' r' => ?_, fun e' h' p m' H' σ' E' a' => ?_, fun e' h' p m' H' σ' E' a' => ?_⟩
  · obtain ⟨b1, b2, b3⟩ := back h' m' H' p.1 E' a'.hp
    exact ⟨b1, k.nx _ _ p.2 m' _ σ' ((E.trans E').trans b2) ⟨b3, a'.nm.ex b2⟩⟩
  · obtain ⟨b1, b2, b3⟩ := back h' m' H' p.1 E' R'
    exact ⟨b1, k.rt _ _ p.2 m' _ _ ((E.trans E').trans b2) b3 (RelE.ex b2 _ _ r')⟩
  · obtain ⟨b1, b2, b3⟩ := back h' m' H' p.1 E' a'.hp
    exact ⟨b1, k.bk _ _ p.2 m' _ σ' ((E.trans E').trans b2) ⟨b3, a'.nm.ex b2⟩⟩
  · obtain ⟨b1, b2, b3⟩ := back h' m' H' p.1 E' a'.hp
    exact ⟨b1, k.ct _ _ p.2 m' _ σ' ((E.trans E').trans b2) ⟨b3, a'.nm.ex b2⟩⟩
theorem RelKV.at {K : PySem.W.Frag} {m : Nat → Addr} {n : Nat} {H : Hp} : ∀ {es : List (EV × EV)} {l : List (L2.Key × V)} {i : Nat} {p : EV × EV}, RelKV K m n H es l → es[i]? = some p → ∃ k v, l[i]? = some (k, v) ∧ RelE K m n H p.1 (kV k) ∧ RelE K m n H p.2 v
  | [], l, i, p, r, e => by simp at e
  | (a, x) :: es, l, 0, p, r, e => by
    rw [RelKV] at r
    obtain ⟨k, v, l', rfl, ra, rx, r⟩ := r
    simp at e
    subst e
    exact ⟨k, v, rfl, ra, rx⟩
  | (a, x) :: es, l, i + 1, p, r, e => by
    rw [RelKV] at r
    obtain ⟨k, v, l', rfl, ra, rx, r⟩ := r
    obtain ⟨k2, v2, e2, b⟩ := RelKV.at (i := i) r (by simpa using e)
    exact ⟨k2, v2, by simpa using e2, b⟩
def tyE (v : EV) (h : EH) : Option String := match v with
  | .non => some "NoneType"
  | .bl _ => some "bool"
  | .int _ => some "int"
  | .str _ => some "str"
  | .ref r => match h[r]? with
    | some (.lst _) => some "list"
    | some (.dic _) => some "dict"
    | some (.slo _ _) => some "?"
    | _ => none
  | .tup _ => some "tuple"
  | .ktup _ => some "tuple"
  | _ => none
section
open PySem.W
variable {prog : Program} {w : World} {A : Around} {E : Value → Shared → Prop} {s : Shared} {K : PySem.W.Frag} {x D : Addr} {ox od : Obj}
theorem cls_some (h : isClsIn K D = true) : ∃ cd, clsIn K D = some cd := Option.isSome_iff_exists.mp h
theorem kin_class2 {Q : Option Value → Shared → Prop} (io : IsiOk K D) (X : K.In s.heap) (I : InstAt s.heap x ox D (some od)) (h : Q (some (.ref D)) { s with toks := s.toks + 1 }) : wpAny (model prog w) A (getAttr? (.ref x) "__class__") Q E s := by
  have hf : findObj K D (some od) "__class__" = some (.bind (.builtin "getset_descriptor.__get__") (.builtin "object.__class__")) := findObj_data (by obtain ⟨cd, hc⟩ := cls_some io.ic; rw [hc]; rfl) io.cl io.gt io.tk
  exact kin_open X I (plainGet_of io.pg).1 (kin_hooked (s := { s with toks := s.toks + 1 }) X I hf (plainGet_of io.pg).2
    (wpAny_call (class_get (s := { s with toks := s.toks + 1 }) (ox := ox) (od := some od) X I io.mo (handed_on rfl h))))
theorem kitx_own2 (io : IsiOk K D) : KitX K (.ref x) (.ref D) (fun h => InstAt h x ox D (some od)) where
  ty := fun _ _ _ I => I.type
  it := fun _ _ X _ => by
    obtain ⟨cdD, hcD⟩ := cls_some io.ic
    unfold clsIn at hcD
    split at hcD
    · rename_i c' d' cd' sl' ho
      intro A' Q' E' s' k q
      unfold isType loadHead
      exact wpAny_bind (wpAny_loadPart (k _ _ (X _ _ ho)) (wpAny_pure q))
    · cases hcD
  ne := fun h tp dd its n sl X htp => by
    obtain ⟨cdD, hcD⟩ := cls_some io.ic
    refine Bool.eq_false_iff.mpr fun q => ?_
    have e : D = tp := Value.ref.inj (beq_iff_eq.mp q)
    subst e
    unfold clsIn at hcD
    split at hcD
    · rename_i c' d' cd' sl' ho
      have z := (X _ _ ho).symm.trans htp
      cases z
    · cases hcD
  ca := fun X I k => kin_class2 io X I k
end
def IsSl (K : PySem.W.Frag) (H : Hp) (a C : Addr) : Prop := IsiOk K C ∧ ∃ dx ws, SlX.Slt H a C dx ws ∧ (H dx = some (.own a) ∨ H dx = some (.xd []))
theorem IsSl.at {X : Cx} {pins : List (Addr × Obj)} {σ : L2.St} {H : Hp} {s : Shared} {a C : Addr} (I : Inv X pins σ H s) (z : IsSl X.K H a C) : ∃ ox od, PySem.W.InstAt s.heap a ox C (some od) := by
  obtain ⟨io, dx, ws, sl, hd⟩ := z
  have hdx : ∃ od, s.heap.get? dx = some od := by
    rcases hd with hd | hd
    · exact I.hok dx _ hd
    · obtain ⟨mA, ⟨od, es, ep, e, _⟩, _⟩ := I.hok dx _ hd
      exact ⟨od, e⟩
  obtain ⟨od, hod⟩ := hdx
  rcases sl with ⟨e, _⟩ | ⟨e, _⟩
  · obtain ⟨d, _, ne, e1, _⟩ := I.hok a _ e
    exact ⟨_, od, e1, rfl, rfl, hod⟩
  · have e' := I.hok a _ e
    unfold SlX.SlO at e'
    obtain ⟨⟨sl, e1, _⟩, _⟩ := e'
    exact ⟨_, od, e1, rfl, rfl, hod⟩
def isDct (r : Nat) (h : EH) : Prop := match h[r]? with
  | some (.dic _) => True
  | some (.dct _) => True
  | _ => False
def lGet2 (td ty tx : LT) : LT := fun env h P => td env h fun v h1 => match v with
  | .ref r => isDct r h1 ∧ ty env h1 fun y h2 => tx env h2 fun z h3 => match h3[r]? with
    | some (.dic kvs) => isKey y ∧ P ((dGet kvs y).getD z) h3
    | some (.dct kvs) => isKeyT y ∧ P ((dGetT kvs y).getD z) h3
    | _ => False
  | _ => False
theorem le_get2 {X : Cx} {o e f : Expr} {td ty tx : LT} {apos cpos : Pos} (hu : X.A.units + 1 < cLine) (ho : LE X o td) (he : LE X e ty) (hf : LE X f tx) (m2 : M2 X o "get" apos e f cpos := by exact ⟨rfl, rfl, rfl, rfl⟩) :
    LE X (.Call (.Attribute o "get" apos) [e, f] [] cpos) (lGet2 td ty tx) := by
  refine ⟨PE.imp (pe_dget2 hu ho.pe he.pe hf.pe m2) fun σ H Q ⟨m, env, h, P, at_, t1, k⟩ => ⟨m, env, h, _, at_, t1, fun v h1 p1 m1 H1 x E1 R1 r1 => ?_⟩⟩
  split at p1
  · rename_i r
    obtain ⟨er, p1⟩ := p1
    rw [RelE] at r1
    obtain ⟨hr, rfl⟩ := r1
    have isd : IsD H1 (m1 r) := by
      unfold isDct at er
      split at er
      · rename_i e
        obtain ⟨l, a, _⟩ := R1.obj _ _ e
        exact .inl ⟨l, .inl a⟩
      · rename_i e
        obtain ⟨l, a, _⟩ := R1.obj _ _ e
        exact .inr ⟨l, .inl a⟩
      · exact er.elim
    refine ⟨_, rfl, isd, m1, env, h1, _, at_.ex E1 R1, p1, fun y h2 p2 m2 H2 yv E2 R2 r2 => ⟨m2, env, h2, _, (at_.ex E1 R1).ex E2 R2, p2, fun z h3 p3 m3 H3 zv E3 R3 r3 => ?_⟩⟩
    split at p3
    · rename_i kvs3 er3
      obtain ⟨l3, a3, rl3⟩ := R3.obj _ _ er3
      obtain ⟨hk, p3⟩ := p3
      have r2' := RelE.ex E3 _ _ r2
      obtain ⟨k', rfl⟩ := key_of hk r2'
      have em : m3 r = m1 r := (E3.eq _ (Nat.lt_of_lt_of_le hr E2.le)).trans (E2.eq _ hr)
      rw [em] at a3
      refine ⟨_, DGet.k a3, ?_⟩
      obtain ⟨g1, g2⟩ := RelKV.get r2' hk rl3
      have E13 := (E1.trans E2).trans E3
      cases e : dGet kvs3 y with
      | none =>
        rw [g2 e]
        rw [e] at p3
        exact k _ _ p3 m3 H3 _ E13 R3 r3
      | some w =>
        obtain ⟨u, eu, ru⟩ := g1 w e
        rw [eu]
        rw [e] at p3
        exact k _ _ p3 m3 H3 _ E13 R3 ru
    · rename_i kvs3 er3
      obtain ⟨l3, a3, rl3⟩ := R3.obj _ _ er3
      obtain ⟨hk, p3⟩ := p3
      have r2' := RelE.ex E3 _ _ r2
      obtain ⟨k', b, ek, rfl, hb⟩ := keyT_of hk r2'
      have em : m3 r = m1 r := (E3.eq _ (Nat.lt_of_lt_of_le hr E2.le)).trans (E2.eq _ hr)
      rw [em] at a3
      refine ⟨_, DGet.t a3 hb, ?_⟩
      obtain ⟨g1, g2⟩ := RelKT.get ek rl3
      have E13 := (E1.trans E2).trans E3
      cases e : dGetT kvs3 y with
      | none =>
        rw [g2 e]
        rw [e] at p3
        exact k _ _ p3 m3 H3 _ E13 R3 r3
      | some w =>
        obtain ⟨u, eu, ru⟩ := g1 w e
        rw [eu]
        rw [e] at p3
        exact k _ _ p3 m3 H3 _ E13 R3 ru
    · exact p3.elim
  · exact p1.elim
def sortE : LC := fun vs h P => match vs with
  | [.ref r] => match h[r]? with
    | some (.dic kvs) => ∃ ks : List Int, kvs.map (·.1) = ks.map EV.int ∧ ks.length < 64 ∧ ∀ ys : List Int, ys.Perm ks → ys.Pairwise (· ≤ ·) → P (.ref h.length) (h ++ [.lst (ys.map EV.int)])
    | _ => False
  | _ => False
def dcopyE : LC := fun vs h P => match vs with
  | [.ref r] => match h[r]? with
    | some (.dic kvs) => P (.ref h.length) (h ++ [.dic kvs])
    | _ => False
  | _ => False
theorem RelKV.keysI {K : PySem.W.Frag} {m : Nat → Addr} {n : Nat} {H : Hp} : ∀ {es : List (EV × EV)} {l : List (L2.Key × V)} {ks : List Int}, RelKV K m n H es l → es.map (·.1) = ks.map EV.int → l.map (·.1) = ks.map Sum.inl
  | [], l, ks, r, e => by
    rw [RelKV] at r
    subst r
    cases ks with
    | nil => rfl
    | cons => simp at e
  | (a, x) :: es, l, ks, r, e => by
    rw [RelKV] at r
    obtain ⟨k, v, l', rfl, ra, _, r⟩ := r
    cases ks with
    | nil => simp at e
    | cons i ks =>
      rw [List.map_cons, List.map_cons, List.cons.injEq] at e
      obtain ⟨e1, e2⟩ := e
      have e1 : a = EV.int i := e1
      subst e1
      rw [RelE] at ra
      have : k = Sum.inl i := by
        cases k with
        | inl j => injection ra with z; rw [z]
        | inr s => cases ra
      rw [List.map_cons, List.map_cons, RelKV.keysI r e2, this]
theorem lc_sorted {X : Cx} (hc : X.calm = true) : LCallR X (.builtin "sorted") sortE := by
  refine ⟨_, call_sortedDI hc, fun m h H vs xs P Q R r0 q k => ?_⟩
  unfold sortE at q
  split at q
  · obtain ⟨v, rfl, r⟩ := r0.one_inv
    rw [RelE] at r
    obtain ⟨_, rfl⟩ := r
    split at q
    · rename_i e
      obtain ⟨l, a, rl⟩ := R.obj _ _ e
      obtain ⟨ks, ek, hl, q⟩ := q
      exact ⟨_, l, ks, rfl, .inl a, rl.keysI ek, hl, fun ys p hp hs hn => k.lst R (q ys hp hs) (rel_ints ys) hn⟩
    · exact q.elim
  · exact q.elim
theorem lc_dict {X : Cx} : LCallR X (.type "dict") dcopyE := by
  refine ⟨_, call_dictD, fun m h H vs xs P Q R r0 q k => ?_⟩
  unfold dcopyE at q
  split at q
  · obtain ⟨v, rfl, r⟩ := r0.one_inv
    rw [RelE] at r
    obtain ⟨_, rfl⟩ := r
    split at q
    · rename_i kvs e
      obtain ⟨l, a, rl⟩ := R.obj _ _ e
      refine ⟨_, l, rfl, .inl a, fun p hp => ?_⟩
      have E : Ex X.K m h.length H (mput m h.length p) (h ++ [EO.dic kvs]).length (upd H p (.dK l)) := Ex.new hp
      have R2 : RelH X.K (mput m h.length p) (h ++ [EO.dic kvs]) (upd H p (.dK l)) := R.new hp ⟨l, upd_same, rl.ex E⟩
      exact k _ _ q _ _ _ E R2 (by rw [RelE]; exact ⟨by simp, by rw [mput_at]⟩)
    · exact q.elim
  · exact q.elim
end Y

namespace Y
open PySem PySem.Spec PyProof.Rows L2

def dcE (g : EH → Prop) (p : Pat) (tt : LTt) (tk tv : LT) (d : Nat) (env : En) (P : EK) : List EV → EH → Prop
  | [], h => g h ∧ P (.ref d) h
  | x :: xs, h => g h ∧ lBind h p x env fun env2 => tt env2 h fun b h3 => if b = true then tk env2 h3 fun y h4 => tv env2 h4 fun z h5 => match h5[d]? with
      | some (.dic kvs) => isKey y ∧ kvs.length < sizeLine ∧ dcE g p tt tk tv d env P xs (h5.set d (.dic (dPut kvs y z)))
      | _ => False
    else dcE g p tt tk tv d env P xs h3
def lDc (ti : LI) (p : Pat) (tt : LTt) (tk tv : LT) (vs : List Nat) : LT := fun env h P => ti env h fun g xs h1 => dcE g p tt tk tv h1.length (wipeE env vs) P xs (h1 ++ [.dic []])
section
variable {X : Cx} {pos : Pos}
theorem le_dc {kx vx tg iter : Expr} {ifs : List Expr} {scope : Scope} (own : List (Str × Nat)) {ti : LI} {p : Pat} {tt : LTt} {tk tv : LT} (hc : X.calm = true) (hN : X.N.Nodup) (hi : LIt X tg iter ti) (ok : BlkOk X.N X.env.scope scope own)
    (hp : ∀ i ∈ Pat.slots p, i ∈ own.map (·.2))
    (hg : ∀ (s : Shared) (H : Hp) (C : Addr) (cl : List (Str × Addr)) (fp : List Addr), LG (X.blk s H scope (compEnvC scope cl C X.env) fp) tg p)
    (ht : ∀ (s : Shared) (H : Hp) (C : Addr) (cl : List (Str × Addr)) (fp : List Addr), LTs (X.blk s H scope (compEnvC scope cl C X.env) fp) ifs tt)
    (hk : ∀ (s : Shared) (H : Hp) (C : Addr) (cl : List (Str × Addr)) (fp : List Addr), LE (X.blk s H scope (compEnvC scope cl C X.env) fp) kx tk)
    (he : ∀ (s : Shared) (H : Hp) (C : Addr) (cl : List (Str × Addr)) (fp : List Addr), LE (X.blk s H scope (compEnvC scope cl C X.env) fp) vx tv) (hs : ∀ x, foldedSetIterable iter X.env x = pure x := by intro _; rfl) :
    LE X (.DictComp kx vx [⟨tg, iter, ifs, 0⟩] scope pos) (lDc ti p tt tk tv (own.map (·.2))) := by
  refine ⟨PE.imp (pe_dc (g := gP X.K p) (tt := upT X.K tt) (tk := up X.K tk) (tv := up X.K tv) hc hN hi.pi ok (fun s H C cl fp => (hg s H C cl fp).pg) (fun s H C cl fp => (ht s H C cl fp).pts) (fun s H C cl fp => (hk s H C cl fp).pe) (fun s H C cl fp => (he s H C cl fp).pe) hs) fun σ H Q ⟨m, env, h, P, at_, t1, k⟩ => ⟨m, env, h, _, at_, t1, fun g xs h1 p1 m1 H1 J E1 R1 sim D hD => ?_⟩⟩
  have E2 : Ex X.K m1 h1.length H1 (mput m1 h1.length D) (h1 ++ [EO.dic []]).length (upd H1 D (.dK [])) := Ex.new hD
  have R2 : RelH X.K (mput m1 h1.length D) (h1 ++ [EO.dic []]) (upd H1 D (.dK [])) := R1.new hD ⟨[], upd_same, rfl⟩
  refine ⟨fun i c H' => c = xs.length - i ∧ i ≤ xs.length ∧ ∃ m2 h2, Ex X.K m1 h1.length H1 m2 h2.length H' ∧ RelH X.K m2 h2 H' ∧ m2 h1.length = D ∧ h1.length < h2.length ∧ dcE g p tt tk tv h1.length (wipeE env (own.map (·.2))) P (xs.drop i) h2,
    ⟨xs.length, by simp, Nat.zero_le _, _, _, E2, R2, mput_at, by simp, by simpa using p1⟩, ?_⟩
  rintro i c H' ⟨rfl, hi, m2, h2, E3, R3, eD, lD, q⟩
  by_cases hlt : i < xs.length
  · have ed : xs.drop i = xs[i] :: xs.drop (i + 1) := List.drop_eq_getElem_cons hlt
    rw [ed, dcE] at q
    obtain ⟨qg, q⟩ := q
    obtain ⟨s1, s2⟩ := sim i h2 m2 H' E3 R3 qg
    obtain ⟨go, yl⟩ := s1 xs[i] (List.getElem?_eq_getElem hlt)
    refine .inr ⟨go, fun H4 => ∃ m4 h4, Ex X.K m1 h1.length H1 m4 h4.length H4 ∧ RelH X.K m4 h4 H4 ∧ m4 h1.length = D ∧ h1.length < h4.length ∧ dcE g p tt tk tv h1.length (wipeE env (own.map (·.2))) P (xs.drop (i + 1)) h4,
      fun H4 q4 => ⟨xs.length - (i + 1), by omega, rfl, hlt, q4⟩, fun v H4 y => ?_⟩
    obtain ⟨E4, R4, r4⟩ := yl v H4 y
    have E14 := (E1.trans E3).trans E4
    obtain ⟨env5, σ5, q5, f, N5, keep, len⟩ := bind_sim R4 ((at_.nm.ex E14).wipe (own.map (·.2))) r4 q
    refine f _ ⟨wipe_back (ss := Pat.slots p) keep hp (by rw [len, wipe_length]), m2, env5, h2, _, ⟨R4, N5⟩, q5, fun b h6 p6 m6 H6 E6 R6 => ?_⟩
    have E16 := (E3.trans E4).trans E6
    have lt2 := E6.le
    have eD6 : m6 h1.length = D := (E6.eq _ lD).trans eD
    cases b with
    | false =>
      dsimp only
      rw [if_neg Bool.false_ne_true] at p6 ⊢
      exact ⟨m6, h6, E16, R6, eD6, by omega, p6⟩
    | true =>
      dsimp only
      rw [if_pos rfl] at p6 ⊢
      refine ⟨m6, env5, h6, _, ⟨R6, N5.ex E6⟩, p6, fun w h7 p7 m7 H7 y7 E7 R7 r7 => ⟨m7, env5, h7, _, ⟨R7, (N5.ex E6).ex E7⟩, p7, fun z h8 p8 m8 H8 z8 E8 R8 r8 => ?_⟩⟩
      have lt7 := E7.le
      have lt8 := E8.le
      have eD8 : m8 h1.length = D := ((E8.eq _ (by omega)).trans (E7.eq _ (by omega))).trans eD6
      split at p8
      · rename_i kvs e8
        obtain ⟨l, a, rl⟩ := R8.obj _ _ e8
        obtain ⟨hkey, hz, p8⟩ := p8
        have r7' := RelE.ex E8 _ _ r7
        obtain ⟨k', rfl⟩ := key_of hkey r7'
        rw [eD8] at a
        have ll := RelKV.length rl
        refine ⟨l, k', rfl, a, by omega, ?_⟩
        have E9 := Ex.write (o := .dK (putK l k' z8)) (e' := EO.dic (dPut kvs w z)) R8 e8
        have R9 := R8.write (o := .dK (putK l k' z8)) (e' := EO.dic (dPut kvs w z)) e8 ⟨_, upd_same, RelKV.put (RelE.ex E9 _ _ r7') hkey (RelE.ex E9 _ _ r8) (rl.ex E9)⟩
        rw [eD8] at E9 R9
        exact ⟨m8, _, ((E16.trans E7).trans E8).trans E9, R9, eD8, by simp; omega, p8⟩
      · exact p8.elim
  · have e : i = xs.length := by omega
    subst e
    rw [List.drop_length, dcE] at q
    obtain ⟨_, s2⟩ := sim xs.length h2 m2 H' E3 R3 q.1
    refine .inl ⟨s2 rfl, k _ _ q.2 m2 H' _ (E1.trans E3) R3 (by rw [RelE]; exact ⟨lD, by rw [eD]⟩)⟩
end
def sclsB (K : PySem.W.Frag) (C : Addr) : Bool := PySem.W.plainGet K C Str.empty && (PySem.W.isClsIn K C && (PySem.W.plainOver K C && He.eqO (PySem.W.findIn K (.ref C) "__setattr__") (some (some (.builtin "object.__setattr__")))))
theorem sclsB_ok {K : PySem.W.Frag} {C : Addr} (h : sclsB K C = true) : SlX.SCls K C := by
  obtain ⟨h1, h⟩ := He.ba h
  obtain ⟨h2, h⟩ := He.ba h
  obtain ⟨h3, h⟩ := He.ba h
  exact ⟨h1, h2, h3, He.eqO_ok h⟩
def slotB (K : PySem.W.Frag) (C : Addr) (f : Str) (i : Nat) : Bool := match PySem.W.findIn K (.ref C) f with
  | some (some (.ref p)) => He.eqO (PySem.W.specialIn K (.ref p) "__get__") (some (some (.builtin "member_descriptor.__get__"))) && (decide (PySem.W.takesIn K (.ref p) = some true) && (decide (PySem.W.typeIn K (.ref p) = some (.type "member_descriptor")) && (decide (PySem.W.slotIn K p C = some i) && decide (i < 1000))))
  | _ => false
theorem slotB_ok {K : PySem.W.Frag} {C : Addr} {f : Str} {i : Nat} (h : slotB K C f i = true) : ∃ p, SlX.Slot1 K C f p i := by
  unfold slotB at h
  split at h
  · rename_i p e
    obtain ⟨h1, h⟩ := He.ba h
    obtain ⟨h2, h⟩ := He.ba h
    obtain ⟨h3, h⟩ := He.ba h
    obtain ⟨h4, h⟩ := He.ba h
    exact ⟨p, e, He.eqO_ok h1, of_decide_eq_true h2, of_decide_eq_true h3, of_decide_eq_true h4, of_decide_eq_true h⟩
  · cases h
def isiOkB (K : PySem.W.Frag) (C : Addr) : Bool := PySem.W.plainGet K C "__class__" && (PySem.W.isClsIn K C && (He.eqO (PySem.W.findIn K (.ref C) "__class__") (some (some (.builtin "object.__class__"))) && (He.eqO (PySem.W.specialIn K (.builtin "object.__class__") "__get__") (some (some (.builtin "getset_descriptor.__get__"))) && (decide (PySem.W.takesIn K (.builtin "object.__class__") = some true) && (decide (PySem.W.mroIn K C (.type "object") = some true) && ["int", "bool", "str", "tuple", "dict", "list"].all fun T => decide (PySem.W.kitOne K (.ref C) (.type T) = some false))))))
theorem isiOkB_ok {K : PySem.W.Frag} {C : Addr} (h : isiOkB K C = true) : IsiOk K C := by
  obtain ⟨h1, h⟩ := He.ba h
  obtain ⟨h2, h⟩ := He.ba h
  obtain ⟨h3, h⟩ := He.ba h
  obtain ⟨h4, h⟩ := He.ba h
  obtain ⟨h5, h⟩ := He.ba h
  obtain ⟨h6, h⟩ := He.ba h
  exact ⟨h1, h2, He.eqO_ok h3, He.eqO_ok h4, of_decide_eq_true h5, of_decide_eq_true h6, fun T hT => of_decide_eq_true (List.all_eq_true.mp h T hT)⟩
end Y
namespace Y
open PySem PySem.Spec PyProof.Rows L2
theorem slot1 {K : PySem.W.Frag} {C : Addr} {f : Str} {i : Nat} (c : SlX.SCls K C) (s : ∃ p, SlX.Slot1 K C f p i) : SlotOf K f [(C, i)] := by
  intro q hq
  rw [List.mem_singleton.mp hq]
  exact ⟨c, s⟩
theorem met1 {X : Cx} {C g : Addr} {m : Str} {sp : LSp} {k : Nat} {fd : FuncData} {ps : List Str} (c : SlX.SCls X.K C) (hm : Meth X.K C m g) (F : FnG X.prog X.w X.K X.mg X.base k g fd ps sp) (hr : Room k X.A) (hb : Binds X.K fd ps []) :
    MetOf X m (List.lookup · [(C, sp)]) := by
  intro D sp' e
  have q := lookup_mem (show List.lookup D [(C, sp)] = some sp' from e)
  have e2 := List.mem_singleton.mp q
  cases e2
  exact ⟨c, g, k, fd, ps, hm, F, hr, hb⟩
end Y

namespace Y
open PySem PySem.Spec PyProof.Rows L2

def liftP (K : PySem.W.Frag) (trs : List (LT × LT)) : List (TE × TE) := trs.map fun q => (up K q.1, up K q.2)
def dAll (ps : List (EV × EV)) : List (EV × EV) := ps.foldl (fun acc p => dPut acc p.1 p.2) []
theorem relKV_merge {K : PySem.W.Frag} {m : Nat → Addr} {n : Nat} {H : Hp} : ∀ {ps : List (EV × EV)} {kvs : List (L2.Key × V)} {acc : List (EV × EV)} {l : List (L2.Key × V)}, (∀ p ∈ ps, isKey p.1) → RelKV K m n H ps kvs → RelKV K m n H acc l →
    RelKV K m n H (ps.foldl (fun acc p => dPut acc p.1 p.2) acc) (mergeK l kvs)
  | [], kvs, acc, l, _, r, ra => by rw [RelKV] at r; subst r; exact ra
  | (x, y) :: ps, kvs, acc, l, hk, r, ra => by
    rw [RelKV] at r
    obtain ⟨k, v, l', rfl, r1, r2, r⟩ := r
    rw [List.foldl_cons]
    show RelKV K m n H _ (mergeK (putK l k v) l')
    exact relKV_merge (fun p hp => hk p (List.mem_cons_of_mem _ hp)) r (RelKV.put r1 (hk (x, y) (by simp)) r2 ra)
structure LPs (X : Cx) (pos : Pos) (keys : List (Option Expr)) (values : List Expr) (trs : List (LT × LT)) : Prop where
  pps : PPs X pos keys values (liftP X.K trs)
section
variable {X : Cx} {pos : Pos}
end
section
variable {X : Cx} {a b : Expr} {ta tb : LT} {p p2 q pos : Pos}
end
theorem u1 {k : Nat} {A : Around} (r : Room k A) : A.units + 1 < cLine := by have := r.un; omega
theorem u65 {k : Nat} {A : Around} (r : Room k A) : A.units + 65 < cLine := by have := r.un; omega
theorem sa_l {h : EH} {b : Nat} {xs : List EV} {i : Int} {v : EV} {k : Nat} {p : EH → Prop} (e : h[b]? = some (.lst xs)) (a : ixN xs.length i = some k) (q : p (h.set b (.lst (xs.set k v)))) : setA (.ref b) (.int i) v h p := by
  unfold setA; simp only [e]; exact set_l e a q
end Y

namespace Y
open PySem PySem.Spec PyProof.Rows L2

def numE (xs : List EV) (k : Int) : List EV := (List.range xs.length).zipWith (fun (i : Nat) x => EV.tup [.int (k + i), x]) xs
theorem numE_at {xs : List EV} {k : Int} {i : Nat} {z : EV} (e : (numE xs k)[i]? = some z) : ∃ x, xs[i]? = some x ∧ z = .tup [.int (k + (i : Nat)), x] := by
  obtain ⟨a, b, ha, hb, rfl⟩ := zw_at e
  obtain ⟨hl, e1⟩ := List.getElem?_eq_some_iff.mp ha
  rw [List.getElem_range] at e1
  subst e1
  exact ⟨b, hb, rfl⟩
theorem numE_len (xs : List EV) (k : Int) : (numE xs k).length = xs.length := by unfold numE; simp
end Y

namespace Y
open PySem PySem.Spec PyProof.Rows L2

end Y

namespace Y
open PySem PySem.Spec PyProof.Rows L2

end Y

namespace Y
open PySem PySem.Spec PyProof.Rows L2 HT
section
variable {prog : Program} {w : World} {A : Around} {E : Value → Shared → Prop} {s : Shared}
end
end Y

namespace Y
open PySem PySem.Spec PyProof.Rows L2
end Y

namespace Y
open PySem PySem.Spec PyProof.Rows L2 PySem.W
section
variable {prog : Program} {w : World} {A : Around} {E : Value → Shared → Prop} {s : Shared} {x : Str} {t : Tok}
end
end Y

namespace Y
open PySem PySem.Spec PyProof.Rows L2
def lOrT (ta tb : LT) : LT := fun env h P => ta env h fun v h1 => truE v h1 fun b => if b = true then P v h1 else tb env h1 P
def lAndT (ta tb : LT) : LT := fun env h P => ta env h fun v h1 => truE v h1 fun b => if b = true then tb env h1 P else P v h1
section
variable {X : Cx} {a b : Expr} {ta tb : LT} {pos : Pos} {rest : List Expr}
theorem le_orT (ha : LE X a ta) (hb : LE X (.BoolOp .Or (b :: rest) pos) tb) : LE X (.BoolOp .Or (a :: b :: rest) pos) (lOrT ta tb) := by
  refine ⟨PE.imp (pe_orT ha.pe hb.pe) fun σ H Q ⟨m, env, h, P, at_, t1, k⟩ => ⟨m, env, h, _, at_, t1, fun v h1 p1 m1 H1 x E1 R1 r1 => ?_⟩⟩
  obtain ⟨c, tc, pc⟩ := tru_sim R1 r1 p1
  refine ⟨c, tc, ?_⟩
  cases c with
  | false => exact ⟨m1, env, h1, P, at_.ex E1 R1, pc, k.ex E1⟩
  | true => exact k _ _ pc m1 H1 _ E1 R1 r1
theorem le_andT (ha : LE X a ta) (hb : LE X (.BoolOp .And (b :: rest) pos) tb) : LE X (.BoolOp .And (a :: b :: rest) pos) (lAndT ta tb) := by
  refine ⟨PE.imp (pe_andT ha.pe hb.pe) fun σ H Q ⟨m, env, h, P, at_, t1, k⟩ => ⟨m, env, h, _, at_, t1, fun v h1 p1 m1 H1 x E1 R1 r1 => ?_⟩⟩
  obtain ⟨c, tc, pc⟩ := tru_sim R1 r1 p1
  refine ⟨c, tc, ?_⟩
  cases c with
  | true => exact ⟨m1, env, h1, P, at_.ex E1 R1, pc, k.ex E1⟩
  | false => exact k _ _ pc m1 H1 _ E1 R1 r1
end
end Y

namespace Y
open PySem PySem.Spec PyProof.Rows L2
section
variable {X : Cx}
end
end Y

namespace Y
open PySem PySem.Spec PyProof.Rows L2
section
variable {X : Cx}
end
section
variable {X : Cx} {a b : Expr} {ta tb : LT} {p p2 q pos : Pos}
end
end Y

namespace Y
open PySem PySem.Spec PyProof.Rows L2
mutual
def flatD : PyData → Bool
  | .none => true
  | .bool _ => true
  | .int _ => true
  | .str _ => true
  | .tuple xs => flatDs xs
  | .list _ => false
  | .dict _ => false
def flatDs : List PyData → Bool
  | [] => true
  | x :: xs => flatD x && flatDs xs
end
def kD : L2.Key → PyData
  | .inl i => .int i
  | .inr x => .str x
def dicD (ps : List (L2.Key × PyData)) : PyData := .dict (ps.map fun p => (kD p.1, p.2))
inductive DKV (h : EH) : List (EV × EV) → List (L2.Key × PyData) → Prop
  | nil : DKV h [] []
  | int {i : Int} {v : EV} {d : PyData} {r : List (EV × EV)} {ps : List (L2.Key × PyData)} : Dat h 50 v d → flatD d = true → DKV h r ps → DKV h ((.int i, v) :: r) ((.inl i, d) :: ps)
  | str {s : List Nat} {v : EV} {d : PyData} {r : List (EV × EV)} {ps : List (L2.Key × PyData)} : Dat h 50 v d → flatD d = true → DKV h r ps → DKV h ((.str s, v) :: r) ((.inr (S s), d) :: ps)
inductive DatE (h : EH) : EV → PyData → Prop
  | pl {v : EV} {d : PyData} : Dat h 55 v d → DatE h v d
  | dic {r : Nat} {kvs : List (EV × EV)} {ps : List (L2.Key × PyData)} : h[r]? = some (.dic kvs) → DKV h kvs ps → DatE h (.ref r) (dicD ps)
inductive DatEs (h : EH) : List EV → List PyData → Prop
  | nil : DatEs h [] []
  | cons {v : EV} {d : PyData} {vs : List EV} {ds : List PyData} : DatE h v d → DatEs h vs ds → DatEs h (v :: vs) (d :: ds)
inductive DatX (h : EH) : EV → PyData → Prop
  | el {v : EV} {d : PyData} : DatE h v d → DatX h v d
  | lst {r : Nat} {xs : List EV} {ds : List PyData} : h[r]? = some (.lst xs) → DatEs h xs ds → DatX h (.ref r) (.list ds)
def dEq (p q : List (L2.Key × PyData)) : Bool := p.length == q.length && p.all fun x => match (q.find? fun y => y.1 = x.1).map (·.2) with
  | some u => PyData.eqv x.2 u
  | none => false
abbrev DRow (K : PySem.W.Frag) (H : Hp) : List (L2.Key × V) → List (L2.Key × PyData) → Prop := Paired fun p q => p.1 = q.1 ∧ Dp K H p.2 q.2 ∧ flatD q.2 = true ∧ q.2.depth ≤ 50 ∧ q.2.plain = true
inductive DpE (K : PySem.W.Frag) (H : Hp) : V → PyData → Prop
  | pl {v : V} {d : PyData} : Dp K H v d → d.depth ≤ 55 → d.plain = true → DpE K H v d
  | dic {a : Addr} {l : List (L2.Key × V)} {ps : List (L2.Key × PyData)} : H a = some (.dK l) → DRow K H l ps → DpE K H (.ref a) (dicD ps)
inductive DpX (K : PySem.W.Frag) (H : Hp) : V → PyData → Prop
  | el {v : V} {d : PyData} : DpE K H v d → DpX K H v d
  | lst {a : Addr} {xs : List V} {ds : List PyData} : SqL K H a xs → Paired (DpE K H) xs ds → DpX K H (.ref a) (.list ds)
section
variable {K : PySem.W.Frag} {m : Nat → Addr} {H : Hp} {h : EH}
theorem kV_int {k : L2.Key} {i : Int} (e : kV k = .int i) : k = .inl i := by
  cases k with
  | inl j => simp only [kV] at e; cases e; rfl
  | inr x => simp [kV] at e
theorem kV_str {k : L2.Key} {x : Str} (e : kV k = .str x) : k = .inr x := by
  cases k with
  | inl j => simp [kV] at e
  | inr y => simp only [kV] at e; cases e; rfl
theorem DKV.row (R : RelH K m h H) : ∀ {kvs : List (EV × EV)} {ps : List (L2.Key × PyData)} {l : List (L2.Key × V)}, DKV h kvs ps → RelKV K m h.length H kvs l → DRow K H l ps
  | _, _, l, .nil, r => by
    have r' : l = [] := r
    subst r'; exact .nil
  | _, _, l, .int dv fd dr, r => by
    obtain ⟨k', v, l', rfl, rk, rv, rr⟩ := r
    rw [RelE] at rk
    have e := kV_int rk
    subst e
    exact .cons ⟨rfl, Dat.dp R _ _ _ _ dv rv, fd, (Dat.dep _ _ _ dv).1, (Dat.dep _ _ _ dv).2⟩ (DKV.row R dr rr)
  | _, _, l, .str dv fd dr, r => by
    obtain ⟨k', v, l', rfl, rk, rv, rr⟩ := r
    rw [RelE] at rk
    have e := kV_str rk
    subst e
    exact .cons ⟨rfl, Dat.dp R _ _ _ _ dv rv, fd, (Dat.dep _ _ _ dv).1, (Dat.dep _ _ _ dv).2⟩ (DKV.row R dr rr)
theorem DatE.dp (R : RelH K m h H) {v : EV} {x : V} {d : PyData} (a : DatE h v d) (r : RelE K m h.length H v x) : DpE K H x d := by
  cases a with
  | pl a => exact .pl (Dat.dp R _ _ _ _ a r) (Dat.dep _ _ _ a).1 (Dat.dep _ _ _ a).2
  | dic e b =>
    rw [RelE] at r
    obtain ⟨_, rfl⟩ := r
    obtain ⟨l, hl, rl⟩ := R.obj _ _ e
    exact .dic hl (DKV.row R b rl)
theorem DatEs.dp (R : RelH K m h H) : ∀ {vs : List EV} {xs : List V} {ds : List PyData}, DatEs h vs ds → RelEs K m h.length H vs xs → Paired (DpE K H) xs ds
  | _, _, _, .nil, r => by rw [RelEs] at r; subst r; exact .nil
  | _, _, _, .cons a b, r => by
    rw [RelEs] at r
    obtain ⟨v, l, rfl, r1, r2⟩ := r
    exact .cons (DatE.dp R a r1) (DatEs.dp R b r2)
theorem DatX.dp (R : RelH K m h H) {v : EV} {x : V} {d : PyData} (a : DatX h v d) (r : RelE K m h.length H v x) : DpX K H x d := by
  cases a with
  | el a => exact .el (DatE.dp R a r)
  | lst e b =>
    rw [RelE] at r
    obtain ⟨_, rfl⟩ := r
    obtain ⟨vs, hv, t⟩ := R.obj _ _ e
    exact .lst (SqL.of hv) (DatEs.dp R b t)
end
mutual
theorem flat_as {h : Heap} : ∀ (d : PyData) (u : Value) (as : List Addr), flatD d = true → Reads h u d as → as = []
  | .none, _, _, _, r => by cases r; rfl
  | .bool _, _, _, _, r => by cases r; rfl
  | .int _, _, _, _, r => by cases r; rfl
  | .str _, _, _, _, r => by cases r; rfl
  | .list _, _, _, f, _ => by simp [flatD] at f
  | .dict _, _, _, f, _ => by simp [flatD] at f
  | .tuple xs, _, _, f, r => by
    cases r with
    | tuple h1 h2 h3 h4 => exact flats_as xs _ _ (by simpa [flatD] using f) h4
theorem flats_as {h : Heap} : ∀ (ds : List PyData) (us : List Value) (as : List Addr), flatDs ds = true → ReadsAll h us ds as → as = []
  | [], _, _, _, r => by cases r; rfl
  | d :: ds, _, _, f, r => by
    have f' : flatD d = true ∧ flatDs ds = true := by simpa [flatDs] using f
    cases r with
    | cons r1 r2 => rw [flat_as d _ _ f'.1 r1, flats_as ds _ _ f'.2 r2]; rfl
end
section
variable {X : Cx} {pins : List (Addr × Obj)} {σ : L2.St} {H : Hp} {s : Shared}
theorem row_reads (I : Inv X pins σ H s) : ∀ {l : List (L2.Key × V)} {ps : List (L2.Key × PyData)} {vs : List (L2.Key × Value)} {es : List DictEntry}, DRow X.K H l ps → KV l vs → Pairs (mixKind X.prog X.w) es vs →
    ReadsAll s.heap (es.map (·.key)) (ps.map fun p => kD p.1) [] ∧ ReadsAll s.heap (es.map (·.val)) (ps.map (·.2)) []
  | _, _, _, _, .nil, kv, pr => by
    cases kv
    cases pr
    exact ⟨.nil, .nil⟩
  | _, _, _, _, .cons a b, kv, pr => by
    cases kv with
    | cons k1 k2 =>
      cases pr with
      | cons q1 q2 p2 =>
        obtain ⟨i1, i2⟩ := row_reads I b k2 p2
        obtain ⟨e1, d1, f1, _⟩ := a
        obtain ⟨e2, r2⟩ := k1
        obtain ⟨as, rd⟩ := Dp.reads I _ _ _ d1 r2
        have has := flat_as _ _ _ f1 rd
        subst has
        refine ⟨?_, ?_⟩
        · refine ReadsAll.cons (as := []) (bs := []) ?_ i1
          rcases keyIs_shape (k := _) (v := _) q1 with ⟨i, t, hk, hv⟩ | ⟨x, t, hk, hv⟩
          · dsimp only; rw [hv, ← e1, e2, hk]; exact .int i t
          · dsimp only; rw [hv, ← e1, e2, hk]; exact .str x t
        · refine ReadsAll.cons (as := []) (bs := []) ?_ i2
          dsimp only; rw [q2]; exact rd
theorem DpE.reads (I : Inv X pins σ H s) {v : V} {u : Value} {d : PyData} (a : DpE X.K H v d) (r : RelV v u) : ∃ as, Reads s.heap u d as ∧ (d.hasDict = true → sysModules ∉ as) := by
  cases a with
  | pl a _ pd =>
    obtain ⟨as, rd⟩ := Dp.reads I _ _ _ a r
    exact ⟨as, rd, fun z => by rw [plain_noDict _ pd] at z; cases z⟩
  | @dic a0 l0 ps0 e b =>
    cases (show u = Value.ref _ from r)
    obtain ⟨_, sm, vs, kv, o, es, ep, h1, h2, h3, _, hp, _⟩ := (show ObjOk X.prog X.w H s.heap _ (.dK _) from I.hok _ _ e)
    obtain ⟨i1, i2⟩ := row_reads I b kv hp
    refine ⟨_, .dict h1 h2.1 h3 (by rw [List.map_map]; exact i1) (by rw [List.map_map]; exact i2), fun _ z => ?_⟩
    have z' : sysModules = a0 := by simpa using z
    rw [← z'] at sm
    simp at sm
theorem row_depth {K : PySem.W.Frag} : ∀ {l : List (L2.Key × V)} {ps : List (L2.Key × PyData)}, DRow K H l ps → PyData.depthKv (ps.map fun p => (kD p.1, p.2)) ≤ 50
  | _, _, .nil => by simp [PyData.depthKv]
  | _, _, .cons (b := qq) a b => by
    have q := row_depth b
    obtain ⟨_, _, _, d1, _⟩ := a
    simp only [List.map_cons, PyData.depthKv]
    have : (kD qq.1).depth ≤ 1 := by cases qq.1 <;> simp [kD, PyData.depth]
    omega
theorem DpE.depth {K : PySem.W.Frag} {v : V} {d : PyData} (a : DpE K H v d) : d.depth ≤ 55 := by
  cases a with
  | pl _ dd _ => exact dd
  | dic _ b =>
    have q := row_depth b
    unfold dicD
    simp only [PyData.depth]
    omega
theorem dpEs_depth {K : PySem.W.Frag} : ∀ {xs : List V} {ds : List PyData}, Paired (DpE K H) xs ds → PyData.depthAll ds ≤ 55
  | _, _, .nil => by simp [PyData.depthAll]
  | _, _, .cons a b => by
    have q := dpEs_depth b
    have := a.depth
    simp only [PyData.depthAll]
    omega
theorem reprAll (I : Inv X pins σ H s) : ∀ {xs : List V} {ds : List PyData} {us : List Value}, Paired (DpE X.K H) xs ds → Vals xs us → PyData.showableAll ds = true → (∀ t ∈ PyData.shownAll ds, t.length ≤ sizeLine) →
    ∃ as bs, ReadsAll s.heap us ds as ∧ ReadAtMost s.heap (PyData.depthAll ds) bs ∧ ReprAllK X.prog X.w bs s.heap (PyData.depthAll ds) us (PyData.shownAll ds)
  | _, _, _, .nil, r, _, _ => by
    cases r
    exact ⟨[], [], .nil, (fun _ h => nomatch h), by simp only [PyData.shownAll]; exact .nil⟩
  | _, _, _, .cons (b := d) (l₂ := ds) a b, r, hs, hz => by
    cases r with
    | cons r1 r2 =>
      have hs' : d.showable = true ∧ PyData.showableAll ds = true := by simpa [PyData.showableAll] using hs
      obtain ⟨as, rd, hsm⟩ := a.reads I r1
      obtain ⟨b1, hb1, k1⟩ := ReprK.of_reads (prog := X.prog) (w := X.w) rd hs'.1 hsm (hz _ (by simp only [PyData.shownAll]; exact List.mem_cons_self ..))
      obtain ⟨as2, b2, rd2, hb2, k2⟩ := reprAll I b r2 hs'.2 (fun t ht => hz t (by simp only [PyData.shownAll]; exact List.mem_cons_of_mem _ ht))
      refine ⟨_, b1 ++ b2, .cons rd rd2, ?_, ?_⟩
      · intro z hm
        simp only [PyData.depthAll]
        rcases List.mem_append.mp hm with hm | hm
        · obtain ⟨d', as', r', hd'⟩ := hb1 z hm
          exact ⟨d', as', r', Nat.le_trans hd' (Nat.le_max_left _ _)⟩
        · obtain ⟨d', as', r', hd'⟩ := hb2 z hm
          exact ⟨d', as', r', Nat.le_trans hd' (Nat.le_max_right _ _)⟩
      · simp only [PyData.depthAll, PyData.shownAll]
        exact .cons ((k1.more fun z hb => List.mem_append_left _ hb).level_le (Nat.le_max_left _ _)) (k2.more_le (fun z hb => List.mem_append_right _ hb) (Nat.le_max_right _ _))
end
def rReprX (K : PySem.W.Frag) : List V → Hp → VK → Prop := fun xs H Q => ∃ x d, xs = [x] ∧ DpX K H x d ∧ d.showable = true ∧ d.shown.length ≤ sizeLine ∧ Q (.str d.shown) H
def reprX : LC := fun vs h P => match vs with
  | [v] => ∃ d, DatX h v d ∧ d.showable = true ∧ d.shown.length ≤ sizeLine ∧ P (.str d.shown.cps.toList) h
  | _ => False
section
variable {X : Cx}
theorem call_reprX (hG : X.A.guards = some []) (hu : X.A.units + 64 < cLine) : CallR X (.builtin "repr") (rReprX X.K) := by
  intro pins s σ H xs us Q I r q
  obtain ⟨x, d, rfl, hd, sd, zd, q⟩ := q
  obtain ⟨u, rfl, ru⟩ := vals1 r
  cases hd with
  | el a =>
    cases a with
    | pl a dd pd => exact call_reprD hG hu pins s σ H [x] [u] Q I r ⟨x, d, rfl, a, by omega, pd, sd, zd, q⟩
    | dic e b =>
      cases (show u = Value.ref _ from ru)
      obtain ⟨as, rd, hsm⟩ := (DpE.dic e b).reads I rfl
      have dd := (DpE.dic e b).depth
      exact PySem.repr_of_reads' rd sd hsm hG (by omega) (fun _ _ e => e) (fun h' u tk kk => ⟨.str _, H, I.kept kk, ⟨_, rfl⟩, q⟩) zd
  | lst hs b =>
    cases (show u = Value.ref _ from ru)
    rename_i a ys ds
    obtain ⟨its, rv, ⟨o, n, ho, hc, hdt, hda⟩, hz⟩ := I.list hs
    have dd := dpEs_depth b
    have zd' : (listText (PyData.shownAll ds)).length ≤ sizeLine := by simpa only [PyData.shown] using zd
    obtain ⟨as, bs, rd, hb, hk⟩ := reprAll I b rv (by simpa [PyData.showable] using sd) (fun t ht => Nat.le_trans (listText_mem_le ht) zd')
    have rda : Reads s.heap (.ref a) (.list ds) (a :: as) := .list ho hc hda (by simpa using rd)
    have hna : a ∉ bs := not_mem_of_deeper rda (by simp only [PyData.depth]; omega) hb
    simp only [PyData.shown] at q
    have fin : ∀ h' u tk, (∀ b o, s.heap.get? b = some o → h'.get? b = some o) → ∃ v H', Inv X pins σ H' { s with heap := h', toks := tk } ∧ RelV v (.str (listText (PyData.shownAll ds)) u) ∧ Q v H' := fun h' u tk kk => ⟨.str _, H, I.kept kk, ⟨_, rfl⟩, q⟩
    refine call_repr_slot (T := "list") (idr := "list.__repr__") (by omega) ⟨o, ho, hc⟩ F.slot_list_repr.toG ?_
    cases its with
    | nil =>
      cases rd
      simp only [PyData.shownAll, listText_nil] at fin
      exact call_list_repr_empty ⟨o, ho, hc⟩ ho hda ⟨_, _, rfl, fin s.heap _ _ fun _ _ e => e⟩
    | cons y l =>
      exact call_list_reprK ho hc hda hna (by simpa using hk.length_eq) (fun i y e => hk.item i y (by simpa using e)) hG (fun b _ => Clear.nil b) (by show X.A.units + 1 + (_ + 1) < cLine; omega) (fun _ _ e => e)
        (fun h' u tk kk => ⟨_, _, rfl, fin h' u tk kk⟩) zd'
theorem lc_reprX (hG : X.A.guards = some []) (hu : X.A.units + 64 < cLine) : LCallR X (.builtin "repr") reprX := by
  refine ⟨_, call_reprX hG hu, ?_⟩
  intro m h H vs xs P Q R r0 q k
  unfold reprX at q
  split at q
  · obtain ⟨v, rfl, r⟩ := r0.one_inv
    obtain ⟨d, dd, sd, zd, p⟩ := q
    exact ⟨v, d, rfl, dd.dp R r, sd, zd, k.same R p (by rw [RelE])⟩
  · exact q.elim
end
section
variable {X : Cx} {pins : List (Addr × Obj)} {σ : L2.St} {H : Hp} {s : Shared}
theorem row_find {K : PySem.W.Frag} {l : List (L2.Key × V)} {ps : List (L2.Key × PyData)} {vs : List (L2.Key × Value)} (r : DRow K H l ps) (kv : KV l vs) (k : L2.Key) :
    (valueAt vs k = none ∧ ((ps.find? fun y => y.1 = k).map (·.2)) = none) ∨ ∃ u x d, valueAt vs k = some u ∧ ((ps.find? fun y => y.1 = k).map (·.2)) = some d ∧ Dp K H x d ∧ RelV x u ∧ d.depth ≤ 50 ∧ d.plain = true := by
  induction r generalizing vs with
  | nil => cases kv; exact .inl ⟨rfl, rfl⟩
  | @cons p q l ps a b ih =>
    cases kv with
    | @cons _ w _ ws k1 k2 =>
      obtain ⟨e1, d1, _, dd, pd⟩ := a
      obtain ⟨e2, r2⟩ := k1
      by_cases hk : p.1 = k
      · refine .inr ⟨w.2, p.2, q.2, ?_, ?_, d1, r2, dd, pd⟩
        · unfold valueAt; rw [List.find?_cons_of_pos (by simpa [← e2] using hk)]; rfl
        · rw [List.find?_cons_of_pos (by simpa [← e1] using hk)]; rfl
      · have h1 : valueAt (w :: ws) k = valueAt ws k := by unfold valueAt; rw [List.find?_cons_of_neg (by simpa [← e2] using hk)]
        have h2 : ((q :: ps).find? fun y => y.1 = k) = ps.find? fun y => y.1 = k := List.find?_cons_of_neg (by simpa [← e1] using hk)
        rw [h1, h2]
        exact ih k2
def hitB (q : List (L2.Key × PyData)) (x : L2.Key × PyData) : Bool := match (q.find? fun y => y.1 = x.1).map (·.2) with
  | some u => PyData.eqv x.2 u
  | none => false
theorem dEq_eq (p q : List (L2.Key × PyData)) : dEq p q = (p.length == q.length && p.all (hitB q)) := rfl
theorem hits_ok (I : Inv X pins σ H s) {A : Around} (hu : A.units + 60 < cLine) {l2 : List (L2.Key × V)} {p2 : List (L2.Key × PyData)} {v2 : List (L2.Key × Value)} (b2 : DRow X.K H l2 p2) (k2 : KV l2 v2) :
    ∀ {l : List (L2.Key × V)} {ps : List (L2.Key × PyData)} {vs : List (L2.Key × Value)}, DRow X.K H l ps → KV l vs → PySem.W.KeqHits A s v2 vs (ps.all (hitB p2))
  | _, _, _, .nil, kv => by cases kv; exact .nil
  | _, _, _, .cons (b := q) (l₂ := ps) a b, kv => by
    cases kv with
    | @cons _ w _ ws k1 kk =>
      obtain ⟨e1, d1, _, dd, pd⟩ := a
      obtain ⟨e2, r2⟩ := k1
      obtain ⟨wk, wv⟩ := w
      have ek : q.1 = wk := e1.symm.trans e2
      have ih := hits_ok I hu b2 k2 b kk
      rw [List.all_cons]
      rcases row_find b2 k2 wk with ⟨h1, h2⟩ | ⟨u, x, d, h1, h2, dx, rx, dl, pl⟩
      · have hb : hitB p2 q = false := by unfold hitB; rw [ek, h2]
        rw [hb, Bool.false_and]
        exact .miss h1
      · have hb : hitB p2 q = PyData.eqv q.2 d := by unfold hitB; rw [ek, h2]
        rw [hb]
        obtain ⟨as, ra⟩ := Dp.reads I _ _ _ d1 r2
        obtain ⟨bs, rb⟩ := Dp.reads I _ _ _ dx rx
        exact .hit h1 (SeqAt.eqAt_plain _ _ A s _ _ _ _ ra rb pd pl (by omega)) ih
theorem hits_p {P : Program} {w : World} {A : Around} {kb : List (L2.Key × Value)} : ∀ {l : List (L2.Key × Value)} {b : Bool}, PySem.W.KeqHits A s kb l b → PySem.W.KeqHitsP P w A s kb l b
  | _, _, .nil => .nil
  | _, _, .miss h => .miss h
  | _, _, .hit h e r => .hit h e.eqP (hits_p r)
theorem row_plain {K : PySem.W.Frag} : ∀ {l : List (L2.Key × V)} {ps : List (L2.Key × PyData)}, DRow K H l ps → ∀ x ∈ ps, x.2.plain = true
  | _, _, .nil => fun x hx => nomatch hx
  | _, _, .cons a b => fun x hx => by
    rcases List.mem_cons.mp hx with rfl | hx
    · exact a.2.2.2.2
    · exact row_plain b x hx
theorem row_self (I : Inv X pins σ H s) {l : List (L2.Key × V)} {ps : List (L2.Key × PyData)} {a : Addr} (e : H a = some (.dK l)) (b : DRow X.K H l ps) : dEq ps ps = true := by
  obtain ⟨_, _, vs, kv, o, es, ep, _, _, _, _, _, nd⟩ := (show ObjOk X.prog X.w H s.heap a (.dK l) from I.hok a _ e)
  have nd2 : (ps.map (·.1)).Nodup := by
    have e1 : ∀ {l : List (L2.Key × V)} {ps : List (L2.Key × PyData)} {vs : List (L2.Key × Value)}, DRow X.K H l ps → KV l vs → ps.map (·.1) = vs.map (·.1) := by
      intro l ps vs r
      induction r generalizing vs with
      | nil => intro kv; cases kv; rfl
      | cons a _ ih =>
        intro kv
        cases kv with
        | cons k1 k2 => rw [List.map_cons, List.map_cons, ih k2, ← a.1, k1.1]
    rw [e1 b kv]; exact nd
  have pl := row_plain b
  rw [dEq_eq]
  have : ps.all (hitB ps) = true := by
    rw [List.all_eq_true]
    intro x hx
    have hf : ps.find? (fun y => y.1 = x.1) = some x := by
      clear pl b e kv nd
      induction ps with
      | nil => cases hx
      | cons y ys ih =>
        rw [List.map_cons, List.nodup_cons] at nd2
        rcases List.mem_cons.mp hx with rfl | hx
        · exact List.find?_cons_of_pos (by simp)
        · rw [List.find?_cons_of_neg (by
            simp only [decide_eq_true_eq]
            intro z
            exact nd2.1 (z ▸ List.mem_map_of_mem hx))]
          exact ih nd2.2 hx
    unfold hitB
    rw [hf]
    exact SeqAt.eqv_refl_plain _ (pl x hx)
  rw [this]
  simp
theorem dicD_inj {p q : List (L2.Key × PyData)} (e : dicD p = dicD q) : p = q := by
  unfold dicD at e
  injection e with e
  have kinj : ∀ a b : L2.Key, kD a = kD b → a = b := fun a b z => by
    cases a <;> cases b <;> simp [kD] at z <;> rw [z]
  induction p generalizing q with
  | nil => cases q with
    | nil => rfl
    | cons y ys => simp at e
  | cons x xs ih => cases q with
    | nil => simp at e
    | cons y ys =>
      rw [List.map_cons, List.map_cons] at e
      injection e with e1 e2
      injection e1 with e3 e4
      rw [ih e2, show x = y from Prod.ext (kinj _ _ e3) e4]
theorem DpE.eqP (I : Inv X pins σ H s) {A : Around} (hu : A.units + 62 < cLine) {x y : V} {u v : Value} {d : PyData} (a : DpE X.K H x d) (b : DpE X.K H y d) (ru : RelV x u) (rv : RelV y v) : SeqAt.EqP X.prog X.w A s u v true := by
  cases a with
  | pl a dd pd =>
    cases b with
    | pl b _ _ =>
      obtain ⟨as, r1⟩ := Dp.reads I _ _ _ a ru
      obtain ⟨bs, r2⟩ := Dp.reads I _ _ _ b rv
      have q := SeqAt.eqAt_plain _ _ A s _ _ _ _ r1 r2 pd pd (by omega)
      rw [SeqAt.eqv_refl_plain _ pd] at q
      exact q.eqP
    | dic e2 b2 => simp [dicD, PyData.plain] at pd
  | @dic a1 l1 p1 e1 b1 =>
    generalize hd : dicD p1 = d at b
    cases b with
    | pl b _ pd => rw [← hd] at pd; simp [dicD, PyData.plain] at pd
    | @dic a2 l2 p2 e2 b2 =>
      have ep := dicD_inj hd
      subst ep
      cases (show u = Value.ref a1 from ru)
      cases (show v = Value.ref a2 from rv)
      by_cases ne : a1 = a2
      · subst ne; exact (SeqAt.EqAt.same _).eqP
      · obtain ⟨_, y1, v1, k1, D1⟩ := (show ObjOk X.prog X.w H s.heap a1 (.dK l1) from I.hok a1 _ e1)
        obtain ⟨_, y2, v2, k2, D2⟩ := (show ObjOk X.prog X.w H s.heap a2 (.dK l2) from I.hok a2 _ e2)
        have hh := hits_ok (A := A.in1) I (by show A.units + 1 + 60 < cLine; omega) b2 k2 b1 k1
        have sf := row_self I e1 b1
        rw [dEq_eq, Bool.and_eq_true] at sf
        rw [sf.2] at hh
        have hl : v1.length = v2.length := by rw [← k1.length, ← k2.length, b1.length, b2.length]
        refine SeqAt.eqP_refs ne fun E Q q => PySem.W.rcP_dicts (knd := mixKind X.prog X.w) (r := true) y1 y2 D1 D2 (by omega) (fun _ => hits_p hh) E Q ?_
        rw [show (v1.length == v2.length && true) = true by simp [hl]]
        exact q
theorem eqPs (I : Inv X pins σ H s) {A : Around} (hu : A.units + 62 < cLine) : ∀ {xs ys : List V} {ds : List PyData} {us vs : List Value}, Paired (DpE X.K H) xs ds → Paired (DpE X.K H) ys ds → Vals xs us → Vals ys vs →
    us.length = vs.length ∧ ∀ j (h1 : j < us.length) (h2 : j < vs.length), SeqAt.EqP X.prog X.w A s us[j] vs[j] true
  | _, _, _, _, _, .nil, b, r1, r2 => by
    cases b; cases r1; cases r2
    exact ⟨rfl, fun j h1 => absurd h1 (Nat.not_lt_zero j)⟩
  | _, _, _, _, _, .cons a a2, b, r1, r2 => by
    cases b with
    | cons b b2 =>
      cases r1 with
      | cons r r1 =>
        cases r2 with
        | cons t r2 =>
          obtain ⟨e, q⟩ := eqPs I hu a2 b2 r1 r2
          refine ⟨by simp [e], fun j h1 h2 => ?_⟩
          cases j with
          | zero => exact a.eqP I hu b r t
          | succ j => exact q j (Nat.lt_of_succ_lt_succ h1) (Nat.lt_of_succ_lt_succ h2)
end
def eqX (neg : Bool) : LO := fun v w h P => eqE neg v w h P ∨
  (∃ r q k1 k2 p1 p2, v = .ref r ∧ w = .ref q ∧ h[r]? = some (.dic k1) ∧ h[q]? = some (.dic k2) ∧ DKV h k1 p1 ∧ DKV h k2 p2 ∧ P (.bl (neg ^^ dEq p1 p2)) h) ∨
  (neg = false ∧ ∃ r q xs ys ds, v = .ref r ∧ w = .ref q ∧ h[r]? = some (.lst xs) ∧ h[q]? = some (.lst ys) ∧ DatEs h xs ds ∧ DatEs h ys ds ∧ P (.bl true) h) ∨
  (∃ r q k1 k2 ps, v = .ref r ∧ w = .ref q ∧ h[r]? = some (.dic k1) ∧ h[q]? = some (.dic k2) ∧ DKV h k1 ps ∧ DKV h k2 ps ∧ P (.bl (!neg)) h)
def rEqX (neg : Bool) (K : PySem.W.Frag) : R2 := fun x y H Q => (∃ d e, Dp K H x d ∧ Dp K H y e ∧ d.depth ≤ 60 ∧ d.plain = true ∧ e.plain = true ∧ Q (.bl (neg ^^ PyData.eqv d e)) H) ∨
  (∃ a b k1 k2 p1 p2, x = .ref a ∧ y = .ref b ∧ H a = some (.dK k1) ∧ H b = some (.dK k2) ∧ DRow K H k1 p1 ∧ DRow K H k2 p2 ∧ Q (.bl (neg ^^ dEq p1 p2)) H) ∨
  (neg = false ∧ ∃ a b xs ys ds, x = .ref a ∧ y = .ref b ∧ SqL K H a xs ∧ SqL K H b ys ∧ Paired (DpE K H) xs ds ∧ Paired (DpE K H) ys ds ∧ Q (.bl true) H) ∨
  (∃ a b k1 k2 ps, x = .ref a ∧ y = .ref b ∧ H a = some (.dK k1) ∧ H b = some (.dK k2) ∧ DRow K H k1 ps ∧ DRow K H k2 ps ∧ Q (.bl (!neg)) H)
theorem eqX_sim {K : PySem.W.Frag} {neg : Bool} : LOp K (rEqX neg K) (eqX neg) := by
  intro m h H v w x y P Q R rx ry q k
  rcases q with q | ⟨r, q, k1, k2, p1, p2, rfl, rfl, e1, e2, d1, d2, p⟩ | ⟨ng, r, q, xs, ys, ds, rfl, rfl, e1, e2, d1, d2, p⟩ | ⟨r, q, k1, k2, ps, rfl, rfl, e1, e2, d1, d2, p⟩
  · exact .inl (eq_sim R rx ry q k)
  · rw [RelE] at rx ry
    obtain ⟨_, rfl⟩ := rx
    obtain ⟨_, rfl⟩ := ry
    obtain ⟨l1, h1, t1⟩ := R.obj _ _ e1
    obtain ⟨l2, h2, t2⟩ := R.obj _ _ e2
    exact .inr (.inl ⟨_, _, l1, l2, p1, p2, rfl, rfl, h1, h2, d1.row R t1, d2.row R t2, k.same R p (by rw [RelE])⟩)
  · rw [RelE] at rx ry
    obtain ⟨_, rfl⟩ := rx
    obtain ⟨_, rfl⟩ := ry
    obtain ⟨l1, h1, t1⟩ := R.obj _ _ e1
    obtain ⟨l2, h2, t2⟩ := R.obj _ _ e2
    exact .inr (.inr (.inl ⟨ng, _, _, l1, l2, ds, rfl, rfl, SqL.of h1, SqL.of h2, d1.dp R t1, d2.dp R t2, k.same R p (by rw [RelE])⟩))
  · rw [RelE] at rx ry
    obtain ⟨_, rfl⟩ := rx
    obtain ⟨_, rfl⟩ := ry
    obtain ⟨l1, h1, t1⟩ := R.obj _ _ e1
    obtain ⟨l2, h2, t2⟩ := R.obj _ _ e2
    exact .inr (.inr (.inr ⟨_, _, l1, l2, ps, rfl, rfl, h1, h2, d1.row R t1, d2.row R t2, k.same R p (by rw [RelE])⟩))
section
variable {X : Cx}
theorem lo_eqX (hu : X.A.units + 64 < cLine) : LOpR X (compareOp .Eq) (eqX false) := by
  refine ⟨rEqX false X.K, ?_, eqX_sim⟩
  intro pins s σ H x y v u Q I rx ry h
  have fold : (∃ a b k1 k2 p1 p2, x = .ref a ∧ y = .ref b ∧ H a = some (.dK k1) ∧ H b = some (.dK k2) ∧ DRow X.K H k1 p1 ∧ DRow X.K H k2 p2 ∧ Q (.bl (false ^^ dEq p1 p2)) H) ∨ (∃ a b k1 k2 ps, x = .ref a ∧ y = .ref b ∧ H a = some (.dK k1) ∧ H b = some (.dK k2) ∧ DRow X.K H k1 ps ∧ DRow X.K H k2 ps ∧ Q (.bl (!false)) H) →
      ∃ a b k1 k2 p1 p2, x = .ref a ∧ y = .ref b ∧ H a = some (.dK k1) ∧ H b = some (.dK k2) ∧ DRow X.K H k1 p1 ∧ DRow X.K H k2 p2 ∧ Q (.bl (false ^^ dEq p1 p2)) H := by
    rintro (z | ⟨a, b, k1, k2, ps, ea, eb, e1, e2, r1, r2, q⟩)
    · exact z
    · exact ⟨a, b, k1, k2, ps, ps, ea, eb, e1, e2, r1, r2, by rw [row_self I e1 r1]; exact q⟩
  replace h : (∃ d e, Dp X.K H x d ∧ Dp X.K H y e ∧ d.depth ≤ 60 ∧ d.plain = true ∧ e.plain = true ∧ Q (.bl (false ^^ PyData.eqv d e)) H) ∨ (∃ a b k1 k2 p1 p2, x = .ref a ∧ y = .ref b ∧ H a = some (.dK k1) ∧ H b = some (.dK k2) ∧ DRow X.K H k1 p1 ∧ DRow X.K H k2 p2 ∧ Q (.bl (false ^^ dEq p1 p2)) H) ∨
      (false = false ∧ ∃ a b xs ys ds, x = .ref a ∧ y = .ref b ∧ SqL X.K H a xs ∧ SqL X.K H b ys ∧ Paired (DpE X.K H) xs ds ∧ Paired (DpE X.K H) ys ds ∧ Q (.bl true) H) := by
    rcases h with h | h | h | h
    · exact .inl h
    · exact .inr (.inl h)
    · exact .inr (.inr h)
    · exact .inr (.inl (fold (.inr h)))
  rcases h with ⟨d, e, hd, he, dd, pd, pe, q⟩ | ⟨a, b, k1, k2, p1, p2, rfl, rfl, e1, e2, r1, r2, q⟩ | ⟨_, a, b, xs, ys, ds, rfl, rfl, h1, h2, d1, d2, q⟩
  · obtain ⟨as, r1⟩ := Dp.reads I d x v hd rx
    obtain ⟨bs, r2⟩ := Dp.reads I e y u he ry
    exact PySem.SeqAt.eq_plain r1 r2 pd pe (by omega) ⟨.bl _, H, I, rfl, by simpa using q⟩
  · cases (show v = Value.ref a from rx)
    cases (show u = Value.ref b from ry)
    obtain ⟨_, y1, v1, t1, D1⟩ := (show ObjOk X.prog X.w H s.heap a (.dK k1) from I.hok a _ e1)
    obtain ⟨_, y2, v2, t2, D2⟩ := (show ObjOk X.prog X.w H s.heap b (.dK k2) from I.hok b _ e2)
    refine PySem.W.keq_eq (knd := mixKind X.prog X.w) y1 y2 D1 D2 (by omega) (fun _ => hits_ok I (by show X.A.units + 1 + 60 < cLine; omega) r2 t2 r1 t1) ⟨.bl _, H, I, rfl, ?_⟩
    rw [dEq_eq] at q
    rw [← t1.length, ← t2.length, r1.length, r2.length]
    simpa using q
  · cases (show v = Value.ref a from rx)
    cases (show u = Value.ref b from ry)
    obtain ⟨us, s1, g1, _⟩ := I.list h1
    obtain ⟨ws, s2, g2, _⟩ := I.list h2
    obtain ⟨hl, he⟩ := eqPs I (A := X.A.in1) (by show X.A.units + 1 + 62 < cLine; omega) d1 d2 s1 s2
    refine SeqAt.rcP_lists (e := fun _ => true) g1.isList g2.isList (by simpa using hl) (by omega) (fun j j1 j2 => ?_) _ _ ⟨.bl true, H, I, ?_, q⟩
    · have k := he j (by simpa using j1) (by simpa using j2)
      simpa using k
    · rw [show ((List.range us.toArray.size).all fun _ => true) = true from List.all_eq_true.mpr fun _ _ => rfl]
      rfl
end
end Y

namespace Y
open PySem PySem.Spec PyProof.Rows L2

theorem mcall_eq {o e : Expr} {name : Str} {apos pos : Pos} {env : Env} {ov : Value} (hl : (apos.endLine == pos.line) = true) (he : starEach [e] env = [(false, eval e env)]) :
    methodCall o name apos pos env ov 1 (backTo pos (starEach [e] env)) [] = (do
      let (f, first) ← holding [ov] (getMethod ov name (do return (← importBound o env).getD true))
      callWith pos f first (backTo pos (starEach [e] env)) []) := by
  have hf : methodCallForm 1 (backTo pos (starEach [e] env)) [] = true := by rw [he]; rfl
  unfold methodCall methodCallPos calleeOf
  rw [hf]
  simp only [if_true, Bool.not_true, hl, Bool.or_true, pure_bind, Bool.false_or]
theorem call_form {o : Expr} {name x : Str} {p3 apos pos : Pos} {env : Env} (hl : (apos.endLine == pos.line) = true) : eval (.Call (.Attribute o name apos) [.Name x p3] [] pos) env = (do
      let ov ← attributeBase o name env (eval o env)
      standAt apos.atName
      let (f, first) ← holding [ov] (getMethod ov name (do return (← importBound o env).getD true))
      callWith pos f first (backTo pos (starEach [.Name x p3] env)) []) :=
  congrArg (fun k : Value → Sem Value => attributeBase o name env (eval o env) >>= k) (funext fun ov => congrArg (fun k : Sem Value => standAt apos.atName >>= fun _ => k) (mcall_eq hl rfl))
def InitBody (x f : Str) (body : List Stmt) : Prop := ∃ p0 p1 p2 p3 p4 p5 p6 p7 p8 p9 : Pos,
  (p2.endLine == p4.line) = true ∧ body = [.Expr (.Call (.Attribute (.Call (.Name "super" p0) [] [] p1) "__init__" p2) [.Name x p3] [] p4) p5, .Assign [.Attribute (.Name "self" p6) f p7] (.Name x p8) p9]
structure InitFn (P : Program) (K : PySem.W.Frag) (C fI : Addr) (x f : Str) : Prop where
  fn : ∃ (oc : Value) (od : Option Addr) (osl : Array (Option Value)) (n q : Str) (a1 a2 : Arg) (body : List Stmt) (scope : Scope) (cc cda : Addr) (kV doc pm ct : Value) (an : Option Addr),
    K.lookup fI = some ⟨oc, od, .func (PySem.W.fnX n q ⟨[], [a1, a2], none, [], [], none, []⟩ body scope [("__class__", cc)] .none kV doc pm an (.ref cda) ct), osl⟩ ∧
    a1.arg = "self" ∧ a2.arg = x ∧ InitBody x f body ∧ PySem.W.codeIn K (.ref cda) q = true ∧
    scope.kind = .function ∧ scope.isCoroutine = false ∧ scope.isGenerator = false ∧ scope.names.lookup ("super" : Str) = some .globalImplicit ∧ scope.names.lookup ("__class__" : Str) = some .free ∧ scope.names.lookup ("self" : Str) = some .local ∧
    scope.names.lookup x = some .local ∧ (∀ y ∈ scope.names, y.2 ≠ .cell) ∧
    (∃ (ccl : Value) (cdd : Option Addr) (vs : Array Value) (ccs : Array (Option Value)) (file : Str) (tf : Tok), K.lookup cda = some ⟨ccl, cdd, .fields vs, ccs⟩ ∧ vs[2]? = some (.str file tf) ∧ ((P.main.file : Str) == file) = true) ∧
    ∃ (cl : Value) (cld : Option Addr) (csl : Array (Option Value)), K.lookup cc = some ⟨cl, cld, .cell (some (.ref C)), csl⟩
  ne : (x == ("self" : Str)) = false
  xd : (x == ("__debug__" : Str)) = false
structure ExcC (P : Program) (K : PySem.W.Frag) (C : Addr) (x f : Str) : Prop where
  oex : OexC K C
  xf : XfC K C
  no : PySem.W.findIn K (.ref C) f = some none
  init : ∃ fI, PySem.W.findIn K (.ref C) "__init__" = some (some (.ref fI)) ∧ PySem.W.typeIn K (.ref fI) = some (.type "function") ∧ InitFn P K C fI x f
  top : (P.main.scope.names.lookup ("super" : Str)).isSome = false
  sup : PySem.W.nsIn K mainGlobals "super" = some none
  mro : PySem.W.mroIn K C (.ref C) = some true
  up : PySem.W.ks_superIn K C C "__init__" = some (some (.builtin "ValueError.__init__"))
  sub : PySem.W.subIn K (.ref C) (.type "ValueError") = some true
  st : PySem.W.nsIn K cStatics "thirdparty.any" = some none
  ein : PySem.W.excInitIn K C [.type "ValueError", .type "Exception", .type "BaseException", .type "object"] "ValueError.__new__" = true
section
variable {P : Program} {w : World} {K : PySem.W.Frag} {A : Around} {hp : Heap} {g : Array GenState} {dr : Drawn} {tk : Nat} {os : OsState} {C fI e t0 : Addr} {x f : Str} {u : Value} {R : Result → Shared → Prop}
theorem exc_init {mg : Str → Option Value} {h0 : Heap} (T : ExcC P K C x f) (Fi : InitFn P K C fI x f) (X0 : K.In h0) (G : h0.Ns mainGlobals mg) {mb : Str → Option Value} (B : h0.Ns builtinsNs mb) (hb : ∀ y : Str, y ≠ "__name__" → mb y = bootBuiltins y) (nl : h0.NoLimit)
    (k0 : ∀ b o, h0.get? b = some o → hp.get? b = some o) (hsz : h0.objs.size ≤ hp.objs.size) (hn : h0.get? e = none) (he : hp.get? e = some (PySem.W.excObj C t0 none .none)) (hd : A.depth < recursionLimit)
    (hq : ∀ h' tk' dx t', (∀ b o, h0.get? b = some o → h'.get? b = some o) → h'.get? e = some (PySem.W.excObj C t' (some dx) .none) → h0.objs.size ≤ dx → dx ≠ e → h'.Ns1 dx (fun y => if y = f then some u else none) →
      R (.ok (.ret .none)) ⟨h', g, dr, tk', os⟩) :
    codeAny (model P w) A (.call (.ref fI) ⟨[.ref e, u], []⟩) R ⟨hp, g, dr, tk, os⟩ := by
  obtain ⟨oc, od, osl, n, q, a1, a2, body, scope, cc, cda, kV, doc, pm, ct, an, lk, ea1, ea2, hbody, hcd, sk, sco, sge, ssu, scl, sse, sx, nocell, ⟨ccl, cdd, vs, ccs, file, tf, lkc, hvs, hfile⟩, cl, cld, csl, lkcell⟩ := Fi.fn
  have XH : K.In hp := X0.keeps k0
  have nx := Fi.ne
  refine ks_codeAny_call_defAt (binds := [(("self" : Str), Value.ref e), (x, u)]) hd (XH _ _ lk) rfl (nl.keeps k0) (PySem.W.codeRec_of XH hcd) rfl (.of_eq ?_) nocell (fun y hy => ?_) (fun h1 hns hk1 => ?_) sco sge sk
  · have e1 : (a2.arg == ("self" : Str)) = false := by rw [ea2]; exact nx
    have e2 : (("self" : Str) == a2.arg) = false := by
      rw [Bool.eq_false_iff]; intro z
      rw [← eq_of_beq z] at e1; simp at e1
    subst ea2
    unfold bindArgs
    simp [PySem.W.fnX, ea1, List.lookup, e1, e2, seqItems?]
    rfl
  · rcases List.mem_cons.mp hy with rfl | hy
    · exact sse
    · rcases List.mem_cons.mp hy with rfl | hy
      · exact sx
      · cases hy
  obtain ⟨p0, p1, p2, p3, p4, p5, p6, p7, p8, p9, hl, rfl⟩ := hbody
  have kk1 : ∀ b o, h0.get? b = some o → h1.get? b = some o := fun b o z => hk1 b o (k0 b o z)
  have Fr1 : PyProof.Rows.Fr h0 hp.objs.size h1 (fun y => [(("self" : Str), Value.ref e), (x, u)].reverse.lookup y) := ⟨hns, kk1, hsz⟩
  have eL : e ≠ hp.objs.size := Nat.ne_of_lt (Heap.lt_size he)
  have N1 : PyProof.Rows.News h0 hp.objs.size h1 [(e, PySem.W.excObj C t0 none .none)] := fun p hp' => by
    rcases List.mem_cons.mp hp' with rfl | z
    · exact ⟨hk1 _ _ he, eL, hn⟩
    · cases z
  have mself : (fun y => [(("self" : Str), Value.ref e), (x, u)].reverse.lookup y) "self" = some (Value.ref e) := by
    show List.lookup ("self" : Str) [(x, u), (("self" : Str), Value.ref e)] = _
    have e1 : (("self" : Str) == x) = false := by
      rw [Bool.eq_false_iff]; intro z
      have z2 := eq_of_beq z
      rw [← z2] at nx; simp at nx
    simp [List.lookup, e1]
  have mx : (fun y => [(("self" : Str), Value.ref e), (x, u)].reverse.lookup y) x = some u := by
    show List.lookup x [(x, u), (("self" : Str), Value.ref e)] = _
    simp [List.lookup]
  generalize hm : (fun y => [(("self" : Str), Value.ref e), (x, u)].reverse.lookup y) = m at Fr1 mself mx
  have hns' : h1.Ns hp.objs.size m := Fr1.ns
  refine ks_wpAt_execs_cons (ks_wpAt_Expr_any (ks_wpAt_MethodCall (pl := _) ?_ (call_form hl)) (by unfold interactive; simp [callEnv, newEnv, PySem.W.fnX, sk]))
  have I1 : PySem.W.InstAt h1 e (PySem.W.excObj C t0 none .none) C none := ⟨(N1 _ (List.mem_singleton.mpr rfl)).1, rfl, rfl, trivial⟩
  have clsC : ∃ cd, PySem.W.clsIn K C = some cd := by
    have z := T.mro
    unfold PySem.W.mroIn at z
    cases q : PySem.W.clsIn K C with
    | none => rw [q] at z; cases z
    | some cd => exact ⟨cd, rfl⟩
  obtain ⟨cd, hcls⟩ := clsC
  obtain ⟨oD, hD1, hD2⟩ : ∃ oD, h1.get? C = some oD ∧ oD.data = .cls cd := by
    unfold PySem.W.clsIn at hcls
    split at hcls
    · rename_i ho
      cases hcls
      exact ⟨_, hk1 _ _ (XH _ _ ho), rfl⟩
    · cases hcls
  have XH1 : K.In h1 := X0.keeps kk1
  refine ks_wpAt_super_base ssu scl (by decide) rfl (XH1 _ _ lk) rfl rfl rfl (XH1 _ _ lkc) rfl hvs hfile T.top ?_
  refine PySem.W.ks_loadName_global sk ssu (Calls.loadGlobal_builtin (mg := mg) (mb := mb) (G.keeps kk1) (PySem.W.mg_none_of X0 G T.sup) (B.keeps kk1) ((hb "super" (by decide)).trans PyProof.Rows.Boot.«super») ⟨rfl, ?_⟩)
  refine wpAny_loadName_free sk scl rfl ⟨_, XH1 _ _ lkcell, rfl⟩ ?_
  rw [ea1]
  refine wpAny_loadName_local sk sse hns' mself ?_
  refine PySem.ks_wpAny_isType_cls hD1 hD2 ⟨rfl, ?_⟩
  refine ks_wpAny_call_super hD1 hD2 I1.at_ rfl (fun c z => nomatch z) (PySem.W.looks_mroIn XH1 T.mro) (fun h2 e2 k2 => ?_)
  obtain ⟨Fr2, N2, lt2⟩ := PySem.W.ks_newsPush (s := ⟨h1, g, dr, 0, os⟩) Fr1 N1 rfl e2 k2
  have I2 : PySem.W.InstAt h2 e (PySem.W.excObj C t0 none .none) C none := ⟨k2 _ _ I1.at_, rfl, rfl, trivial⟩
  refine PySem.W.kxs_method (s := ⟨h2, g, dr, _, os⟩) PySem.W.kxs_ValueError Fr2 X0 N2 (List.mem_cons_self ..) I2 T.st T.up T.sub (by decide) (fun q3 h3 Fr3 N3 lt3 => ?_)
  refine PySem.W.kxs_callWith1 (s := ⟨h3, g, dr, _, os⟩) N3 (List.mem_cons_self ..) ?_ rfl rfl
  refine Calls.spliced_cons (wpAny_Name (wpAny_loadName_local sk sx Fr3.ns mx ?_) Fi.xd)
  refine Calls.spliced_nil ⟨(N3 _ (List.mem_cons_self ..)).1, ?_⟩
  have ne3 : ∀ p ∈ [(h1.objs.size, PySem.W.ks_superObj C e C), (e, PySem.W.excObj C t0 none .none)], p.1 < q3 := lt3
  have hlt : e < h1.objs.size := Heap.lt_size I1.at_
  have hq3 : q3 ≠ e := Nat.ne_of_gt (lt3 (e, PySem.W.excObj C t0 none .none) (by simp))
  have UF : PySem.W.UpdF e (PySem.W.excObj C t0 none .none) [(q3, PySem.W.kxs_mw "ValueError.__init__" e), (h1.objs.size, PySem.W.ks_superObj C e C), (e, PySem.W.excObj C t0 none .none)]
      (fun o' => [(q3, PySem.W.kxs_mw "ValueError.__init__" e), (h1.objs.size, PySem.W.ks_superObj C e C), (e, o')]) := .tail hq3 (.tail (Nat.ne_of_gt hlt) (.head (fun p z => nomatch z)))
  refine PySem.W.kxs_call (s := ⟨h3, g, dr, _, os⟩) Fr3 X0 N3 F.excBase_ValueError T.ein (List.mem_cons_self ..) UF (by rw [sizeLine_eq]; simp) (fun t4 h4 Fr4 N4 lt4 => ?_)
  have he4 : h4.get? e = some (PySem.W.excObj C t4 none .none) := (N4 (e, PySem.W.excObj C t4 none .none) (by simp)).1
  have kk4 := Fr4.keep
  refine ks_wpAt_execs_cons (ks_wpAt_Assign_Attr (wpAt_of_wpAny (wpAny_Name (wpAny_loadName_local sk sx Fr4.ns mx ?_) Fi.xd)) rfl)
  refine wpAny_Name (wpAny_loadName_local sk sse Fr4.ns mself ?_) (by decide)
  obtain ⟨nm, qq, NN, bs, bm, sn, sub, ab, col, dd, c0, c1, c2, c3, c5, hC, hbm⟩ := T.oex.cls
  have hcl : PySem.W.clsIn K C = some { name := nm, bases := bs, mro := .ref C :: bm, ns := NN, qualname := qq, hasDict := true, slotNames := sn, subclasses := sub, abstract := ab, collection := col, hasDel := false } := by unfold PySem.W.clsIn; rw [hC] <;> rfl
  have XH4 : K.In h4 := X0.keeps kk4
  refine PySem.W.set_plain (s := ⟨h4, g, dr, _, os⟩) (C := C) (od := none) XH4 ⟨he4, rfl, rfl, trivial⟩ T.oex.sa ?_
  refine PySem.HandSPX.exc_osa XH4 he4 hcl (show PySem.HandSPX.refsVE (.ref C :: bm) = true from hbm) rfl T.no (fun h5 tk5 dx k5 dn dne hx5 hn5 => ?_)
  refine wpAt_of_wpAny (wpAny_execs_nil ?_)
  have s04 : h0.objs.size ≤ h4.objs.size := by
    have a1 : h0.objs.size ≤ hp.objs.size := hsz
    have a2 : hp.objs.size < h4.objs.size := by
      obtain ⟨oL, _, _, hL, _⟩ := Fr4.ns
      exact Heap.lt_size hL
    omega
  refine hq h5 _ dx t4 (fun b o z => k5 b o (fun y => by rw [y, hn] at z; cases z) (kk4 b o z)) hx5 (Nat.le_trans s04 dn) dne hn5
end
section
variable {X : Cx} {C : Addr} {x f : Str}
theorem restricted (h : Heap) (e : Addr) : ∃ G : Heap, (∀ b, b ≠ e → G.get? b = h.get? b) ∧ G.get? e = none := by
  obtain ⟨G, a, b⟩ := restrict h fun b => decide (b ≠ e)
  exact ⟨G, fun c hc => a c (decide_eq_true hc), b e (by simp)⟩
theorem pmk_C {y : Str} {e : Expr} {te : TE} {p pos : Pos} (T : ExcC X.prog X.K C x f) (hr : Room 1 X.A) (hg : Gl X y) (hm : X.mg y = some (.ref C)) (he : PE X e te)
    (hdb : (y == ("__debug__" : Str)) = false := by decide) (hse : starEach [e] X.env = (false, eval e X.env) :: starEach [] X.env := by rfl) :
    PMk X (.Call (.Name y p) [e] [] pos) (fun σ H Q => te σ H fun v H1 => ∀ d, H1 d = none → Q (.ref C) (some d) (upd H1 d (.xd [(f, v)]))) := by
  intro pins s σ H Q I h
  obtain ⟨nm, q, N, bs, bm, sn, sub, ab, col, dd, k0, k1, k2, k3, k5, hC, hbm⟩ := T.oex.cls
  obtain ⟨fI, iC, tI, Fi⟩ := T.init
  refine wpAny_Call_Name_kw (ld_glob I hg hm ?_ hdb)
  refine PySem.W.callWith_K (h₀ := X.base) I.ok.mod.kin T.oex.kC (thn ((pa_cons he pa_nil hse).run pos pins s σ H (fun vs H1 => match vs with
    | [v] => ∀ d, H1 d = none → Q (.ref C) (some d) (upd H1 d (.xd [(f, v)]))
    | _ => False) I h) fun us s1 ⟨vs, H1, I1, r1, q1⟩ => ⟨I1.kIn, ?_⟩) hse rfl
  match vs, q1 with
  | [v], q1 =>
    obtain ⟨u, rfl, ru⟩ := vals1 r1
    show wpAny _ _ (call (.ref C) [u]) _ _ _
    obtain ⟨mm, fr⟩ := I1.fr
    obtain ⟨mb, hmb, hbb⟩ := I1.ok.mod.blt
    obtain ⟨hp, g, dr, tk, os⟩ := s1
    have XH : X.K.In hp := I1.kIn
    have kk : ∀ b o, hp.get? b = some o → ((hp.push (PySem.W.kdv_tup [u])).push (PySem.HandSPX.excO C hp.objs.size)).get? b = some o := fun b o z => Heap.get?_push_of_some _ (Heap.get?_push_of_some _ z)
    have hget : ((hp.push (PySem.W.kdv_tup [u])).push (PySem.HandSPX.excO C hp.objs.size)).get? (hp.objs.size + 1) = some (PySem.HandSPX.excO C hp.objs.size) := by heap_get
    have hno : ∀ n, hp.get? (hp.objs.size + n) = none := fun n => Heap.get?_none_of_le (Nat.le_add_right _ _)
    refine wpAny_call (PySem.HandSPX.call_own F.excBase_ValueError (fun Y => PySem.HandSPX.refsVE_contains Y bm hbm) (XH _ _ hC) (PySem.W.looks_findIn XH iC) (fun self => PySem.W.bind_fn XH self tI) (by rw [sizeLine_eq]; simp)
      (exc_init (t0 := hp.objs.size) T Fi XH (I1.ok.mod.glob.keeps fr.keep) (hmb.keeps fr.keep) hbb (I1.ok.mod.nolimit.keeps fr.keep) kk (by rw [Heap.size_push, Heap.size_push]; omega) (hno 1) hget (hr.make C [u] []).depth ?_))
    intro h' tk' dx t' k5 hx5 dn dne hn5
    refine ⟨rfl, ?_⟩
    have hH1 : H1 dx = none := I1.hok.fresh dn
    have hHe : H1 (hp.objs.size + 1) = none := I1.hok.fresh (Nat.le_succ _)
    obtain ⟨G, gk, ge⟩ := restricted h' (hp.objs.size + 1)
    have nhe : ∀ {b : Addr} {o : Obj}, hp.get? b = some o → b ≠ hp.objs.size + 1 := fun {b o} z => Nat.ne_of_lt (Nat.lt_succ_of_lt (Heap.lt_size z))
    have nhd : ∀ {b : Addr} {o : Obj}, hp.get? b = some o → b ≠ dx := fun {b o} z => Nat.ne_of_lt (Nat.lt_of_lt_of_le (Heap.lt_size z) dn)
    have kG : ∀ b o, hp.get? b = some o → G.get? b = some o := fun b o z => (gk b (nhe z)).trans (k5 b o z)
    have U : Un (frs X.stack) [] H1 (upd H1 dx (.xd [(f, v)])) hp G := {
      keep := fun b o z _ _ _ => kG b o z
      slot := fun b o z _ _ _ => ⟨o.slots, kG b o z⟩
      free := fun b o z n _ => by rw [upd_ne (nhd z)]; exact n
      there := fun b o z _ => ⟨o, kG b o z⟩
      tups := fun b xs z => by rw [upd_ne (ne_of_none z hH1)]; exact z
      frzs := fun b o w z => by rw [upd_ne (ne_of_none z hH1)]; exact z
      tbls := fun b ps z => ⟨#[], by rw [upd_ne (ne_of_none z hH1), z]; simp⟩ }
    have hok3 : HOk X.prog X.w (upd H1 dx (.xd [(f, v)])) G := fun b o z => by
      by_cases hbd : b = dx
      · subst hbd
        rw [upd_same] at z
        cases z
        exact ⟨_, hn5.at fun o y => (gk b dne).trans y, relO_put (fs := []) ru fun _ => True.intro⟩
      · rw [upd_ne hbd] at z
        exact (I1.hok b o z).stay (fun c w _ y => kG c w y) (fun c hc => by rw [upd_ne (ne_of_none hc hH1)]; exact hc) (fun c xs hc => by rw [upd_ne (ne_of_none hc hH1)]; exact hc)
    have J : Inv X pins σ (upd H1 dx (.xd [(f, v)])) ⟨G, g, dr, tk', os⟩ := I1.call' (ch := []) rfl U hok3 I1.bare (fun b z => absurd z (by simp))
    refine ⟨hp.objs.size + 1, _, _, ⟨G, g, dr, tk', os⟩, _, .ref C, some dx, rfl, J, fun b o z => ?_, ge, hx5, ⟨rfl, rfl⟩, rfl, rfl, ?_, rfl, I1.bare, raises_own T.oex.exC T.oex.tyC, q1 dx hH1⟩
    · by_cases hb : b = hp.objs.size + 1
      · have z' : G.get? b = some o := z
        rw [hb, ge] at z'; cases z'
      · exact (gk b hb).symm.trans z
    · rw [upd_ne (Ne.symm dne)]; exact hHe
end
end Y

namespace Y
open PySem PySem.Spec PyProof.Rows L2

section
variable {K : PySem.W.Frag} {m m' : Nat → Addr} {n n' : Nat} {H H' : Hp} {h h' : EH}
theorem Ex.mark {e : EO} : Ex K m h.length H m (h ++ [e]).length H := ⟨by simp, fun _ _ => rfl, fun _ _ z => z, fun _ _ z => z⟩
theorem RelH.mark (R : RelH K m h H) : RelH K m (h ++ [.mark m h.length H]) H := by
  refine ⟨fun r u hr => ?_, fun r q u v hr hq fu fv z => ?_⟩
  · rcases app_cases hr with ⟨q, hr⟩ | ⟨rfl, rfl⟩
    · exact (R.obj r u hr).ex Ex.mark rfl fun b => ⟨id, id⟩
    · exact Ex.mark
  · rcases app_cases hr with ⟨a, hr'⟩ | ⟨a, a'⟩
    · rcases app_cases hq with ⟨b, hq'⟩ | ⟨b, b'⟩
      · exact R.inj r q u v hr' hq' fu fv z
      · rw [b'] at fv; cases fv
    · rw [a'] at fu; cases fu
theorem At.mark {env : En} {σ : L2.St} (a : At K env h m σ H) : At K env (h ++ [.mark m h.length H]) m σ H := ⟨a.hp.mark, a.nm.ex Ex.mark⟩
theorem RelH.marked {k : Nat} (R : RelH K m' h' H') (e : h'[k]? = some (.mark m n H)) : Ex K m n H m' h'.length H' := R.obj k _ e
end
abbrev EW := Addr → List (Str × EV) → En → EH → Prop
abbrev ED := Addr → List (Str × EV) → EH → Prop
def upX (K : PySem.W.Frag) (W : EW) : WX := fun cls d σ H => ∃ m env h C fs dx l, At K env h m σ H ∧ cls = .ref C ∧ d = some dx ∧ H dx = some (.xd l) ∧ RelFs K m h.length H fs l ∧ W C fs env h
def KonX (K : PySem.W.Frag) (m : Nat → Addr) (n : Nat) (H : Hp) (W : ED) (E : XK) : Prop :=
  ∀ C fs h', W C fs h' → ∀ (m' : Nat → Addr) (H' : Hp) (dx : Addr) (l : List (Str × V)), Ex K m n H m' h'.length H' → RelH K m' h' H' → H' dx = some (.xd l) → RelFs K m' h'.length H' fs l → E (.ref C) (some dx) H'
def lRaise (W : EW) (C : Addr) (f : Str) (te : LT) : LS := fun _ env h => te env h fun v h1 => W C [(f, v)] env h1
section
variable {X : Cx} {W : EW}
theorem ls_raise {C : Addr} {x f y : Str} {e : Expr} {te : LT} {p pos pos' : Pos} (T : ExcC X.prog X.K C x f) (tk : Takes X (upX X.K W)) (hc : X.calm = true) (hr : Room 1 X.A) (hg : Gl X y) (hm : X.mg y = some (.ref C)) (he : LE X e te)
    (hdb : (y == ("__debug__" : Str)) = false := by decide) (hse : starEach [e] X.env = (false, eval e X.env) :: starEach [] X.env := by rfl) :
    LSt X (.Raise (some (.Call (.Name y p) [e] [] pos)) none pos') (lRaise W C f te) := by
  refine ⟨PS.imp (ps_raise hc tk (pmk_C (pos := pos) T hr hg hm he.pe hdb hse)) fun D σ H ⟨m, env, h, P, at_, t1, k⟩ => ⟨m, env, h, _, at_, t1, fun v h1 p1 m1 H1 x E1 R1 r1 d hd => ?_⟩⟩
  have a1 := at_.ex E1 R1
  exact ⟨m1, env, h1, C, [(f, v)], d, [(f, x)], ⟨R1.tup hd, a1.nm.ex (Ex.tup1 hd)⟩, rfl, rfl, upd_same, ⟨x, [], rfl, RelE.ex (Ex.tup1 hd) _ _ r1, rfl⟩, p1⟩
end
abbrev LSpX := List EV → EH → EK → ED → Prop
def upSpX (K : PySem.W.Frag) (sp : LSpX) : List V → Hp → VK → XK → Prop := fun vs H Q E => ∃ m h evs P W, RelH K m h H ∧ RelEs K m h.length H evs vs ∧ sp evs h P W ∧ Kon K m h.length H P Q ∧ KonX K m h.length H W E
structure FnX (P : Program) (w : World) (K : PySem.W.Frag) (mg : Str → Option Value) (base : Heap) (k : Nat) (f : Addr) (fd : FuncData) (ps : List Str) (sp : LSpX) : Prop where
  len : ∀ evs h Q W, sp evs h Q W → evs.length = ps.length
  run : ∀ (A : Around) (outer : List Env) (s : Shared) (H : Hp) (args : Args) (us : List Value) (vs : List V) (Q : VK) (E : XK), Room k A → A.guards = some [] → Env0 P w K mg base A outer s H →
    BindsTo s fd args (ps.zip us) → Vals vs us → upSpX K sp vs H Q E → codeAny (model P w) A (.call (.ref f) args) (CR (CX P w) outer P w H s Q E) s
section
variable {X : Cx} {k : Nat} {f : Addr} {fd : FuncData} {ps : List Str} {sp : LSpX} {W : EW} {x : Str} {p pos : Pos} {e : Expr} {es : List Expr} {t : LA}
theorem runX {pins : List (Addr × Obj)} {σ : L2.St} {H : Hp} {s : Shared} {Q : VK} {us : List Value} {vs : List V} (Fn : FnX X.prog X.w X.K X.mg X.base k f fd ps sp) (tk : Takes X (upX X.K W)) (hr : Room k X.A) (hG : X.A.guards = some [])
    (hb : Binds X.K fd ps []) (I : Inv X pins σ H s) (r : Vals vs us) (q : upSpX X.K sp vs H Q fun cls d H' => upX X.K W cls d σ H') : wpAny (model X.prog X.w) X.A (call (.ref f) us) (EP X pins σ Q) X.xe s := by
  have hl : us.length = ps.length := by
    obtain ⟨m, h, evs, P, W', R, re, sq, _⟩ := q
    rw [← r.length, ← re.length]
    exact Fn.len _ _ _ _ sq
  have b := hb s us I.kIn (by simpa using hl)
  rw [List.append_nil] at b
  refine wpAny_call (codeAny_mono (Fn.run X.A X.stack s H _ us vs Q _ hr hG I.env0 b r q) fun o s' ho => ?_)
  match o, ho with
  | .error er, ho => exact tk er s' (XE.of_call I (fun _ _ _ z => z) ho)
  | .ok (.ret u), ho => exact I.after ho
  | .ok .next, ho => exact ho.elim
  | .ok .brk, ho => exact ho.elim
  | .ok .cont, ho => exact ho.elim
end
theorem fnX_of {P : Program} {w : World} {K : PySem.W.Frag} {mg : Str → Option Value} {base : Heap} {k : Nat} {f : Addr} {fd : FuncData} {name qual : Str} {params : Arguments} {body : List Stmt} {scope : Scope} {N ps : List Str} {sp : LSpX} {t : EW → LS}
    (Fd : FunD K name qual params body scope [] [] f fd) (Sc : FnScope N ps scope) (len : ∀ evs h Q W, sp evs h Q W → evs.length = ps.length)
    (hbody : ∀ (cdv : Value) (A : Around) (outer : List Env) (s : Shared) (H : Hp) (E : XK) (W : EW), Room k (A.deeper (envOfC qual scope s.heap.objs.size f cdv)) → (A.deeper (envOfC qual scope s.heap.objs.size f cdv)).guards = some [] →
      Takes (cxOf (CX P w) P w K mg base N qual scope f cdv A outer s H E) (upX K W) → LSs (cxOf (CX P w) P w K mg base N qual scope f cdv A outer s H E) body (t W))
    (pure : ∀ evs h Q W, sp evs h Q W → ∀ mk, isF mk = true → t (fun C fs _ h' => h'[h.length]? = some mk ∧ W C fs h') (endsOf Q) (startE N evs) (h ++ [mk])) :
    FnX P w K mg base (k + 1) f fd ps sp := by
  obtain ⟨oc, od, dV, kV, doc, pm, an, cdv, ct, osl, rfl, lk, hcd, _, _⟩ := Fd.ex
  refine ⟨len, fun A outer s H args us vs Q E hr hG e0 hb r q => ?_⟩
  obtain ⟨m, h, evs, Pk, Wk, R, re, sq, kq, kx⟩ := q
  have hl : vs.length = ps.length := by
    rw [← re.length]; exact len _ _ _ _ sq
  have keepB : ∀ b o, base.get? b = some o → s.heap.get? b = some o := fun b o z => (e0.bs b o z).1
  have inK := e0.mod.kin.keeps keepB
  refine codeAny_call_function hr.depth (inK _ _ lk) rfl Sc.co Sc.gen rfl (PySem.W.codeRec_of inK hcd) (hb _ _ _ _ ?_)
  refine wpAny_newFunctionEnv_cells Sc.kind (fun y hy => ?_) fun env he s1 x => ?_
  · rcases Sc.par y.1 (List.of_mem_zip hy).1 with z | z
    · exact .inl z
    · exact .inr ⟨z, PySem.W.cellsFrom_some _ _ _ (.inl z)⟩
  · subst he
    refine ⟨(e0.mod.nolimit.keeps keepB).keeps x.toInCall.keep, codeAny_func ?_⟩
    have I := inv_start (CX := CX P w) (P := P) (w := w) (K := K) (mg := mg) (base := base) (E := E) Sc hr.hd e0 hl r x
    have tk : Takes (cxOf (CX P w) P w K mg base N qual scope f cdv A outer s H E) (upX K fun C fs _ h' => h'[h.length]? = some (.mark m h.length H) ∧ Wk C fs h') :=
      (takes_of (X := cxOf (CX P w) P w K mg base N qual scope f cdv A outer s H E) rfl rfl rfl rfl).imp fun cls d σ H' ⟨m', env', h', C, fs, dx, l, at_, e1, e2, hd, rf, hmk, w'⟩ => by
        subst e1 e2
        exact kx C fs h' w' m' H' dx l (at_.hp.marked hmk) at_.hp hd rf
    have ht := hbody cdv A outer s H E _ (hr.deeper _) hG tk
    have at1 : At K (startE N evs) (h ++ [EO.mark m h.length H]) m (start N vs) H := At.mark ⟨R, start_rel N re⟩
    have pu := pure evs h Pk Wk sq (.mark m h.length H) rfl
    have E0 : Ex K m h.length H m (h ++ [EO.mark m h.length H]).length H := Ex.mark
    have up1 : upS K (t fun C fs _ h' => h'[h.length]? = some (.mark m h.length H) ∧ Wk C fs h') { nx := fun _ H' => Q .non H', rt := Q } (start N vs) H :=
      ⟨m, startE N evs, h ++ [EO.mark m h.length H], endsOf Pk, at1, pu, ⟨fun env' h' p m' H' σ' Ee a' => kq _ _ p m' H' _ (E0.trans Ee) a'.hp (by rw [RelE]), fun v h' p m' H' x Ee R' r' => kq _ _ p m' H' x (E0.trans Ee) R' r', fun _ _ z => z.elim, fun _ _ z => z.elim⟩⟩
    have run := ht.pss.run [] s1 (start N vs) H { nx := fun _ H' => Q .non H', rt := Q } I up1
    refine wpAny_mono run (fun fl s' hs => ?_) fun e s' hs => hs
    match fl, hs with
    | .ret u, ⟨v, σ', H', J, rv, z⟩ => exact ⟨v, H', J.os, J.bare, J.base, J.hok, rv, z⟩
    | .next, ⟨σ', H', J, z⟩ => exact ⟨.non, H', J.os, J.bare, J.base, J.hok, rfl, z⟩
    | .brk, ⟨_, _, _, z⟩ => exact z.elim
    | .cont, ⟨_, _, _, z⟩ => exact z.elim
end Y

namespace Y
open PySem PySem.Spec PyProof.Rows L2

abbrev Suite := Addr → Value → Option Addr → TS
def outOf (D : Ends) (i : Nat) : Ends := { nx := fun σ H => D.nx (σ.set i none) H, rt := D.rt, bk := fun σ H => D.bk (σ.set i none) H, ct := fun σ H => D.ct (σ.set i none) H }
def wName (K : PySem.W.Frag) (D : Ends) : List (Value × Nat × Suite) → WX
  | [] => fun _ _ _ _ => False
  | (c, i, ts) :: r => fun cls d σ H => ∃ b, PySem.W.exmOne K cls c = some b ∧ (b = true → ∀ a, H a = none → ts a cls d (outOf D i) (σ.set i (some (.ref a))) H) ∧ (b = false → wName K D r cls d σ H)
inductive HdsN (X : Cx) : List ExceptHandler → List (Value × Nat × Suite) → Prop
  | nil {hds : List ExceptHandler} : HdsN X hds []
  | cons {x n : Str} {c : Value} {i : Nat} {ts : Suite} {b₀ : Stmt} {suite : List Stmt} {np pos' : Pos} {hds : List ExceptHandler} {l : List (Value × Nat × Suite)} (hc : Names X x c) (hi : X.N[i]? = some n) (hl : X.env.kindOf n = some .local)
      (su : ∀ (a : Addr) (oe : Obj) (cls : Value) (d : Option Addr) (pn : List (Addr × Obj)), Zc cls d oe → (∃ vs, oe.data = .fields vs) → PSs (X.suite a ((a, oe) :: pn)) (b₀ :: suite) (ts a cls d)) (r : HdsN X hds l) :
      HdsN X (.ExceptHandler (some (.Name x np)) (some n) (b₀ :: suite) pos' :: hds) ((c, i, ts) :: l)
section
variable {X : Cx}
theorem clauses {pins : List (Addr × Obj)} {σ : L2.St} {H : Hp} {sI s' : Shared} {a : Addr} {B : Heap} {cls : Value} {d : Option Addr} {D : Ends} {h3 : Heap} (hs : X.stack = X.env :: X.outer) (hf : X.env.frame = some X.env.locals) (hN : X.N.Nodup)
    (J : Inv X pins σ H sI) (nb : ∀ b o, sI.heap.get? b = some o → b ∉ frs X.stack → B.get? b = some o) (up3 : sI.heap.UpToSlots h3) (fl3 : HandSPX.FlyingZ B (X.env :: X.outer) a (Zc cls d) h3) (na : H a = none) (os : s'.os = sI.os) (ag : AllBare s'.gens) :
    ∀ {hds : List ExceptHandler} {l : List (Value × Nat × Suite)}, HdsN X hds l → wName X.K D l cls d σ H → wpAny (model X.prog X.w) X.A (handleBy (.ref a) X.env hds) (SP X pins D) X.xe { s' with heap := h3 } := by
  have nofr : ∀ {h : Heap} {o : Obj} {vs : Array Value}, h.FunFrames B (X.env :: X.outer) → h.get? a = some o → o.data = .fields vs → a ∉ frs (X.env :: X.outer) := by
    intro h o vs ff z dd hm
    obtain ⟨_, o', z', hnf⟩ := ff.mem hm
    rw [z] at z'
    exact hnf vs (by cases z'; exact dd)
  obtain ⟨oe3, vs3, he3, hz3, hd3⟩ := fl3.there
  have nf := nofr fl3.2.2.1 he3 hd3
  have nL : a ≠ X.env.locals := fun z => nf (List.mem_filterMap.mpr ⟨X.env, by simp, by rw [hf, z]⟩)
  have nF : a ∉ X.fs := fun hm => by
    obtain ⟨env', he', z⟩ := List.mem_filterMap.mp hm
    exact nf (List.mem_filterMap.mpr ⟨env', by simp [he'], z⟩)
  have J3 : Inv X pins σ H { s' with heap := h3 } := J.landed nb fl3.1 up3 os ag
  have S3 := J3.suite he3 hd3 na nL nF
  intro hds l hk
  induction hk with
  | nil => exact fun w => w.elim
  | @cons x n c i ts b₀ suite np pos' hds l hc hi hl su _ ih =>
    intro w
    obtain ⟨b, hb, hyes, hno⟩ := w
    refine wpAny_handleBy_cons (codeAny_handlers_test ?_) (by intro z; cases z)
    have cl : PySem.W.Looks (model X.prog X.w) h3 (typeOf (.ref a)) cls := fun _ _ _ _ k z => wpAny_typeOf_ref (k _ _ he3) (by rw [hz3.1]; exact z)
    have mt := PySem.W.exm_one (M := model X.prog X.w) J3.kIn cl hb
    have named : ∀ {Q E : Value → Shared → Prop}, Q c { s' with heap := h3 } → wpAny (model X.prog X.w) (X.A.mark (some (.ref a))) (eval (.Name x np) X.env) Q E { s' with heap := h3 } := by
      intro Q E z
      obtain ⟨hg, hdb, e | ⟨e, hv, hnn⟩⟩ := hc
      · exact ld_glob (X := X.suite a ((a, oe3) :: (X.pn ++ pins))) S3 hg e z hdb
      · exact ld_blt (X := X.suite a ((a, oe3) :: (X.pn ++ pins))) S3 hg e hv z hnn hdb
    refine named (mt.here ?_)
    cases b with
    | false => exact ih (hno rfl)
    | true =>
      refine codeAny_handlers_suite_as (HandSPX.lands_againZ fl3 fun h4 fl4 up4 => ?_)
      obtain ⟨oe4, vs4, he4, hz4, hd4⟩ := fl4.there
      have J4 : Inv X pins σ H { s' with heap := h4 } := J.landed nb fl4.1 (up3.trans up4) os ag
      have S4 := J4.suite he4 hd4 na nL nF
      refine store_ok (X := X.suite a ((a, oe4) :: (X.pn ++ pins))) (v := .ref a) S4 hN hi (.inl hl) rfl (fun s5 S5 => ?_) (.inr hl)
      have run := (su a oe4 cls d (X.pn ++ pins) hz4 ⟨_, hd4⟩).run [] s5 _ H _ S5 (hyes rfl a na)
      have ends : ∀ {σ6 : L2.St} {H6 : Hp} {s6 : Shared} {Q : Shared → Prop}, Inv (X.suite a ((a, oe4) :: (X.pn ++ pins))) [] σ6 H6 s6 → (∀ s7, Inv X pins (σ6.set i none) H6 s7 → Q s7) →
          wpAny (model X.prog X.w) X.A (do bindName X.env n .none; unbindBehindTheSuite X.env n pos') (fun _ s7 => Q s7) X.xe s6 := fun S6 z => gone_ok (S6.unsuite J.ok) hN hi hl z
      refine wpAny_mono run (fun fl s6 z => ?_) (fun _ _ z => False.elim z)
      match fl, z with
      | .ret u, ⟨v6, σ6, H6, S6, r6, q6⟩ => exact ends S6 fun s7 J7 => ⟨_, _, _, J7, r6, q6⟩
      | .next, ⟨σ6, H6, S6, q6⟩ => exact ends S6 fun s7 J7 => ⟨_, _, J7, q6⟩
      | .brk, ⟨σ6, H6, S6, q6⟩ => exact ends S6 fun s7 J7 => ⟨_, _, J7, q6⟩
      | .cont, ⟨σ6, H6, S6, q6⟩ => exact ends S6 fun s7 J7 => ⟨_, _, J7, q6⟩
theorem ps_tryN {body : List Stmt} {h₀ : ExceptHandler} {hds : List ExceptHandler} {l : List (Value × Nat × Suite)} {pos : Pos} {tb : WX → TS} (hs : X.stack = X.env :: X.outer) (hf : X.env.frame = some X.env.locals) (hN : X.N.Nodup)
    (hb : ∀ (W : WX) (pn : List (Addr × Obj)) (xe : Value → Shared → Prop), Takes (X.tr pn xe) W → PassesOwn (model X.prog X.w) X.A X.env xe → PSs (X.tr pn xe) body (tb W))
    (hh : HdsN X (h₀ :: hds) l) : PS X (.Try body (h₀ :: hds) [] [] pos) (fun D σ H => tb (wName X.K D l) D σ H) := by
  refine ⟨fun pins s σ H D I h => wpAny_Try_except ?_⟩
  have ok := I.ok
  have fr2 : X.A.frames = some (X.env :: X.outer) := by rw [ok.frames, hs]
  have caught : Takes (X.tr (X.pn ++ pins) fun e s₁ => wpAny (model X.prog X.w) X.A (noteFrame e X.env) (fun _ s₂ => wpAny (model X.prog X.w) X.A (setFlight e none) (fun _ s₃ =>
      wpAny (model X.prog X.w) X.A (handleBy e X.env (h₀ :: hds)) (SP X pins D) X.xe s₃) X.xe s₂) X.xe s₁) (wName X.K D l) := by
    rintro u s' ⟨a, B, sI, pins', σ', H', cls, d, rfl, J', nb, up, sky, na, os, ag, w⟩
    have sky' : Sky B (X.env :: X.outer) a (Zc cls d) X.env.locals s'.heap := by rw [← hs]; exact sky
    refine Sky.land Zc.steady fr2 hf sky' fun h3 fl3 up3 => ?_
    exact clauses hs hf hN (J'.ofTry ok) nb (up.trans up3) fl3 na os ag hh w
  refine wpAny_mono ((hb _ (X.pn ++ pins) _ caught PassesOwn.looking).run [] s σ H D (I.toTry _) h) (fun fl s1 z => ?_) (fun e s1 z => z)
  match fl, z with
  | .next, ⟨σ', H', J', q⟩ => exact wpAny_execs_nil ⟨σ', H', J'.ofTry ok, q⟩
  | .brk, ⟨σ', H', J', q⟩ => exact ⟨σ', H', J'.ofTry ok, q⟩
  | .cont, ⟨σ', H', J', q⟩ => exact ⟨σ', H', J'.ofTry ok, q⟩
  | .ret u, ⟨v, σ', H', J', r, q⟩ => exact ⟨v, σ', H', J'.ofTry ok, r, q⟩
end
inductive HK where
  | tup (s : List Nat)
  | lst (s : List Nat)
def HK.run : HK → EV → EH → EK → Prop
  | .tup s => fun x h rt => rt (.tup [.str s, x]) h
  | .lst s => fun x h rt => rt (.ref h.length) (h ++ [.lst [.str s, x]])
abbrev HC := Addr × Str × HK × Nat
def wHds (rt : EK) : List HC → ED
  | [] => fun _ _ _ => False
  | (C1, f, k, _) :: r => fun C fs h => (C = C1 ∧ ∃ x, fs.lookup f = some x ∧ k.run x h rt) ∨ wHds rt r C fs h
def lTry (tb : EW → LS) (L : List HC) : LS := fun D env h => ∀ mk, isF mk = true → tb (fun C fs _ h' => h'[h.length]? = some mk ∧ wHds D.rt L C fs h') D env (h ++ [mk])
def HK.ts (C : Addr) (f : Str) (i : Nat) (k : HK) : Suite := fun a cls d D σ H => (i < σ.length → σ[i]? = some (some (.ref a))) ∧ cls = .ref C ∧ ∃ dd l v, d = some dd ∧ H dd = some (.xd l) ∧ l.lookup f = some v ∧ match k with
  | .tup s => ∀ p, H p = none → D.rt (.ref p) (upd H p (.tup [.str (S s), v]))
  | .lst s => ∀ p, H p = none → D.rt (.ref p) (upd H p (.lst [.str (S s), v]))
def HC.suite (c : HC) : Value × Nat × Suite := (.ref c.1, c.2.2.2, c.2.2.1.ts c.1 c.2.1 c.2.2.2)
def ExclA (K : PySem.W.Frag) (C : Addr) : List HC → Prop
  | [] => True
  | c :: r => PySem.W.exmOne K (.ref c.1) (.ref C) = some false ∧ ExclA K C r
def Excl (K : PySem.W.Frag) : List HC → Prop
  | [] => True
  | c :: r => PySem.W.exmOne K (.ref c.1) (.ref c.1) = some true ∧ ExclA K c.1 r ∧ Excl K r
section
variable {K : PySem.W.Frag} {m m' : Nat → Addr} {n n' : Nat} {H H' : Hp} {h h' : EH}
theorem RelFs.look : ∀ {fs : List (Str × EV)} {l : List (Str × V)} {f : Str} {x : EV}, RelFs K m n H fs l → fs.lookup f = some x → ∃ v, l.lookup f = some v ∧ RelE K m n H x v
  | [], _, _, _, _, e => nomatch e
  | (g, y) :: r, _, f, x, q, e => by
    obtain ⟨v, l', rfl, r1, r2⟩ := q
    by_cases hf : f = g
    · subst hf
      simp [List.lookup] at e ⊢
      subst e
      exact r1
    · have hb : (f == g) = false := by simpa using hf
      simp only [List.lookup, hb] at e ⊢
      exact RelFs.look r2 e
theorem wHds_mem {rt : EK} {C : Addr} {fs : List (Str × EV)} : ∀ {L : List HC}, wHds rt L C fs h → ∃ c ∈ L, c.1 = C
  | [], q => q.elim
  | (C1, f, k, i) :: r, q => by
    rcases q with ⟨e, _⟩ | q
    · exact ⟨_, List.mem_cons_self .., e.symm⟩
    · obtain ⟨c, hc, e⟩ := wHds_mem q
      exact ⟨c, List.mem_cons_of_mem _ hc, e⟩
theorem ExclA.mem {C : Addr} : ∀ {L : List HC}, ExclA K C L → ∀ c ∈ L, PySem.W.exmOne K (.ref c.1) (.ref C) = some false
  | [], _, _, z => nomatch z
  | _ :: _, q, c, z => by
    rcases List.mem_cons.mp z with rfl | z
    · exact q.1
    · exact ExclA.mem q.2 c z
theorem wHds_sim {rt : EK} {D : Ends} {C dx : Addr} {fs : List (Str × EV)} {l : List (Str × V)} {σ : L2.St} (k : Kon K m' h'.length H' rt D.rt) (R : RelH K m' h' H') (hd : H' dx = some (.xd l)) (rf : RelFs K m' h'.length H' fs l) :
    ∀ {L : List HC}, Excl K L → wHds rt L C fs h' → wName K D (L.map HC.suite) (.ref C) (some dx) σ H'
  | [], _, q => q.elim
  | (C1, f, hk, i) :: r, ex, q => by
    rcases q with ⟨rfl, x, ex1, q⟩ | q
    · refine ⟨true, ex.1, fun _ a ha => ⟨fun hi => List.getElem?_set_self (by simpa using hi), rfl, dx, l, ?_⟩, fun z => nomatch z⟩
      obtain ⟨v, e, rv⟩ := rf.look ex1
      refine ⟨v, rfl, hd, e, ?_⟩
      cases hk with
      | tup s => exact fun p hp => k.tup R q (.cons (by rw [RelE]) (.one rv)) hp
      | lst s => exact fun p hp => k.lst R q (.cons (by rw [RelE]) (.one rv)) hp
    · obtain ⟨c, hc, e⟩ := wHds_mem q
      refine ⟨false, ?_, fun z => absurd z Bool.false_ne_true, fun _ => wHds_sim k R hd rf ex.2.2 q⟩
      rw [← e]
      exact ex.2.1.mem c hc
end
section
variable {X : Cx}
theorem suite_tup {C a : Addr} {x f n : Str} {i : Nat} {s : List Nat} {st : Str} {oe : Obj} {cls : Value} {d : Option Addr} {pn : List (Addr × Obj)} {j : Nat} {kk : Nat} {p0 p1 p2 p3 p4 : Pos} (T : ExcC X.prog X.K C x f) (es : st = S s) (hi : X.N[i]? = some n) (hl : X.env.kindOf n = some .local)
    (hd : (n == ("__debug__" : Str)) = false) (hcd : (n == ("__classdict__" : Str)) = false) (hz : Zc cls d oe) (hf : ∃ vs, oe.data = .fields vs) (hb : attributeBase (.Name n p1) f X.env (eval (.Name n p1) X.env) = eval (.Name n p1) X.env)
    (hse1 : starEach [.Constant (.str st) j p0, .Attribute (.Name n p1) f p2] X.env = (false, eval (.Constant (.str st) j p0) X.env) :: starEach [.Attribute (.Name n p1) f p2] X.env) (hse2 : starEach [.Attribute (.Name n p1) f p2] X.env = (false, eval (.Attribute (.Name n p1) f p2) X.env) :: starEach [] X.env) :
    PSs (X.suite a ((a, oe) :: pn)) [.Return (some (.Tuple [.Constant (.str st) j p0, .Attribute (.Name n p1) f p2] kk p3)) p4] (HK.ts C f i (.tup s) a cls d) := by
  subst es
  have base := pss_one (ps_ret (X := X.suite a ((a, oe) :: pn)) (pos := p4) (pe_tup (x1 := kk) (pos := p3) (pa_cons (pe_str (x := S s)) (pa_cons (pe_xf (pos := p2) T.xf T.no hz hf (pe_var (pos := p1) hi (.inl hl) hd hcd) hb) pa_nil hse2) hse1)))
  refine ⟨fun pins s0 σ H D I ⟨h1, h2, dd, l, v, e1, e2, e3, q⟩ => base.run pins s0 σ H D I ?_⟩
  have hlt : i < σ.length := by
    rw [I.len]
    exact (List.getElem?_eq_some_iff.mp hi).1
  exact ⟨_, h1 hlt, rfl, h2, dd, l, v, e1, e2, e3, by simp [sizeLine_eq], q⟩
inductive HdsE (X : Cx) : List ExceptHandler → List HC → Prop
  | nil {hds : List ExceptHandler} : HdsE X hds []
  | cons {x n f : Str} {C : Addr} {i : Nat} {k : HK} {st : Stmt} {np pos' : Pos} {hds : List ExceptHandler} {L : List HC} (hc : Names X x (.ref C)) (hi : X.N[i]? = some n) (hl : X.env.kindOf n = some .local)
      (su : ∀ (a : Addr) (oe : Obj) (cls : Value) (d : Option Addr) (pn : List (Addr × Obj)), Zc cls d oe → (∃ vs, oe.data = .fields vs) → PSs (X.suite a ((a, oe) :: pn)) [st] (k.ts C f i a cls d)) (r : HdsE X hds L) :
      HdsE X (.ExceptHandler (some (.Name x np)) (some n) [st] pos' :: hds) ((C, f, k, i) :: L)
theorem HdsE.hdsN {hds : List ExceptHandler} {L : List HC} (h : HdsE X hds L) : HdsN X hds (L.map HC.suite) := by
  induction h with
  | nil => exact .nil
  | cons hc hi hl su _ ih => exact .cons hc hi hl su ih
theorem ls_try {body : List Stmt} {h₀ : ExceptHandler} {hds : List ExceptHandler} {L : List HC} {pos : Pos} {tb : EW → LS} (hs : X.stack = X.env :: X.outer) (hf : X.env.frame = some X.env.locals) (hN : X.N.Nodup)
    (hb : ∀ (W : EW) (pn : List (Addr × Obj)) (xe : Value → Shared → Prop), Takes (X.tr pn xe) (upX X.K W) → PassesOwn (model X.prog X.w) X.A X.env xe → LSs (X.tr pn xe) body (tb W))
    (hh : HdsE X (h₀ :: hds) L) (ex : Excl X.K L) : LSt X (.Try body (h₀ :: hds) [] [] pos) (lTry tb L) := by
  have hand := ps_tryN (X := X) (body := body) (pos := pos) (tb := fun W D σ H => ∃ W' : EW, (∀ c d σ H, upX X.K W' c d σ H → W c d σ H) ∧ upS X.K (tb W') D σ H) hs hf hN
    (fun W pn xe tk po => ⟨fun pins s σ H D I ⟨W', im, q⟩ => (hb W' pn xe (tk.imp im) po).pss.run pins s σ H D I q⟩) hh.hdsN
  refine ⟨PS.imp hand fun D σ H ⟨m, env, h, P, at_, t1, k⟩ => ?_⟩
  have E0 : Ex X.K m h.length H m (h ++ [EO.mark m h.length H]).length H := Ex.mark
  refine ⟨fun C fs _ h' => h'[h.length]? = some (.mark m h.length H) ∧ wHds P.rt L C fs h', ?_, m, env, h ++ [EO.mark m h.length H], P, at_.mark, t1 _ rfl, k.ex E0⟩
  rintro cls d σ' H' ⟨m', env', h', C, fs, dx, l, a', rfl, rfl, hd, rf, hmk, w⟩
  exact wHds_sim (k.rt.ex (a'.hp.marked hmk)) a'.hp hd rf ex w
end
end Y

namespace Y
open PySem PySem.Spec PyProof.Rows L2

def oexB (K : PySem.W.Frag) (C : Addr) : Bool := (match K.lookup C with
    | some ⟨.type "type", _, .cls cd, sl⟩ => (match cd.mro, sl.toList with
      | .ref C' :: bm, [_, _, _, _, some (.builtin n), _] => decide (C' = C) && (decide (n = "ValueError.__new__") && (cd.hasDict && (!cd.hasDel && HandSPX.refsVE bm)))
      | _, _ => false)
    | _ => false) && (decide (PySem.W.findIn K (.ref C) "__setattr__" = some (some (.builtin "object.__setattr__"))) && (decide (PySem.W.subIn K (.ref C) (.type "BaseException") = some true) && (decide (PySem.W.typeIn K (.ref C) = some (.type "type")) && PySem.W.keepIn K (.ref C))))
theorem ba2 {a b : Bool} (h : (a && b) = true) : a = true ∧ b = true := Bool.and_eq_true_iff.mp h
theorem oexB_ok {K : PySem.W.Frag} {C : Addr} (h : oexB K C = true) : OexC K C := by
  unfold oexB at h
  obtain ⟨h1, h⟩ := ba2 h
  obtain ⟨h2, h⟩ := ba2 h
  obtain ⟨h3, h⟩ := ba2 h
  obtain ⟨h4, h5⟩ := ba2 h
  refine ⟨?_, of_decide_eq_true h2, of_decide_eq_true h3, of_decide_eq_true h4, h5⟩
  split at h1
  · rename_i dd cd sl ho
    split at h1
    · rename_i C' bm k0 k1 k2 k3 n k5 hm hs
      obtain ⟨e1, h1⟩ := ba2 h1
      obtain ⟨e2, h1⟩ := ba2 h1
      obtain ⟨e3, h1⟩ := ba2 h1
      obtain ⟨e4, e5⟩ := ba2 h1
      have e1 := of_decide_eq_true e1
      have e2 := of_decide_eq_true e2
      subst e1 e2
      obtain ⟨nm, bs, mro, ns, qn, hd, sn, sub, ab, col, del⟩ := cd
      dsimp only at hm e3 e4
      subst hm e3
      have e4' : del = false := by simpa using e4
      subst e4'
      have hsl : sl = #[k0, k1, k2, k3, some (.builtin "ValueError.__new__"), k5] := by
        obtain ⟨l⟩ := sl
        simp only at hs
        rw [hs]
      subst hsl
      exact ⟨nm, qn, ns, bs, bm, sn, sub, ab, col, dd, k0, k1, k2, k3, k5, ho, e5⟩
    · cases h1
  · cases h1
def initBodyB (x f : Str) : List Stmt → Bool
  | [.Expr (.Call (.Attribute (.Call (.Name s _) [] [] _) i p2) [.Name x1 _] [] p4) _, .Assign [.Attribute (.Name s2 _) f2 _] (.Name x2 _) _] =>
    (p2.endLine == p4.line) && (decide (s = ("super" : Str)) && (decide (i = ("__init__" : Str)) && (decide (x1 = x) && (decide (s2 = ("self" : Str)) && (decide (f2 = f) && decide (x2 = x))))))
  | _ => false
theorem initBodyB_ok {x f : Str} {b : List Stmt} (h : initBodyB x f b = true) : InitBody x f b := by
  unfold initBodyB at h
  split at h
  · rename_i s p0 p1 i p2 x1 p3 p4 p5 s2 p6 f2 p7 x2 p8 p9
    obtain ⟨e0, h⟩ := ba2 h
    obtain ⟨e1, h⟩ := ba2 h
    obtain ⟨e2, h⟩ := ba2 h
    obtain ⟨e3, h⟩ := ba2 h
    obtain ⟨e4, h⟩ := ba2 h
    obtain ⟨e5, e6⟩ := ba2 h
    have e1 := of_decide_eq_true e1
    have e2 := of_decide_eq_true e2
    have e3 := of_decide_eq_true e3
    have e4 := of_decide_eq_true e4
    have e5 := of_decide_eq_true e5
    have e6 := of_decide_eq_true e6
    subst e1 e2 e3 e4 e5
    exact ⟨p0, p1, p2, p3, p4, p5, p6, p7, p8, p9, e0, by rw [e6]⟩
  · cases h
def paramsB (x : Str) : Arguments → Bool
  | ⟨[], [a1, a2], none, [], [], none, []⟩ => decide (a1.arg = ("self" : Str)) && decide (a2.arg = x)
  | _ => false
def scopeB (x : Str) (s : Scope) : Bool := decide (s.kind = .function) && (!s.isCoroutine && (!s.isGenerator && (decide (s.names.lookup ("super" : Str) = some .globalImplicit) && (decide (s.names.lookup ("__class__" : Str) = some .free) &&
  (decide (s.names.lookup ("self" : Str) = some .local) && (decide (s.names.lookup x = some .local) && s.names.all fun y => decide (y.2 ≠ .cell)))))))
def codeB (P : Program) (K : PySem.W.Frag) (cda : Addr) (q : Str) : Bool := PySem.W.codeIn K (.ref cda) q && (match K.lookup cda with
  | some ⟨_, _, .fields vs, _⟩ => (match (vs[2]? : Option Value) with
    | some (Value.str file _) => ((P.main.file : Str) == file)
    | _ => false)
  | _ => false)
def cellB (K : PySem.W.Frag) (C cc : Addr) : Bool := match K.lookup cc with
  | some ⟨_, _, .cell (some (.ref C')), _⟩ => decide (C' = C)
  | _ => false
def initFdB (P : Program) (K : PySem.W.Frag) (C : Addr) (x f : Str) : FuncData → Bool
  | ⟨_, q, ps, .stmts b, sc, gl, [(n, cc)], .none, _, _, _, _, .ref cda, _, bi⟩ =>
    paramsB x ps && (initBodyB x f b && (decide (gl = mainGlobals) && (decide (bi = builtinsNs) && (decide (n = ("__class__" : Str)) && (scopeB x sc && (codeB P K cda q && cellB K C cc))))))
  | _ => false
def initFnB (P : Program) (K : PySem.W.Frag) (C fI : Addr) (x f : Str) : Bool := !(x == ("self" : Str)) && (!(x == ("__debug__" : Str)) && (match K.lookup fI with
  | some ⟨_, _, .func fd, _⟩ => initFdB P K C x f fd
  | _ => false))
theorem initFnB_ok {P : Program} {K : PySem.W.Frag} {C fI : Addr} {x f : Str} (h : initFnB P K C fI x f = true) : InitFn P K C fI x f := by
  unfold initFnB at h
  obtain ⟨h1, h⟩ := ba2 h
  obtain ⟨h2, h⟩ := ba2 h
  refine ⟨?_, by simpa using h1, by simpa using h2⟩
  split at h
  · rename_i oc od fd osl lk
    unfold initFdB at h
    split at h
    · rename_i nm q ps b sc gl n cc kV doc pm an cda ct bi
      obtain ⟨a1, h⟩ := ba2 h
      obtain ⟨a2, h⟩ := ba2 h
      obtain ⟨a3, h⟩ := ba2 h
      obtain ⟨a4, h⟩ := ba2 h
      obtain ⟨a5, h⟩ := ba2 h
      obtain ⟨a6, h⟩ := ba2 h
      obtain ⟨a7, a8⟩ := ba2 h
      have a3 := of_decide_eq_true a3
      have a4 := of_decide_eq_true a4
      have a5 := of_decide_eq_true a5
      subst a3 a4 a5
      unfold paramsB at a1
      split at a1
      · rename_i g1 g2
        obtain ⟨b1, b2⟩ := ba2 a1
        unfold scopeB at a6
        obtain ⟨c1, a6⟩ := ba2 a6
        obtain ⟨c2, a6⟩ := ba2 a6
        obtain ⟨c3, a6⟩ := ba2 a6
        obtain ⟨c4, a6⟩ := ba2 a6
        obtain ⟨c5, a6⟩ := ba2 a6
        obtain ⟨c6, a6⟩ := ba2 a6
        obtain ⟨c7, c8⟩ := ba2 a6
        unfold codeB at a7
        obtain ⟨d1, d2⟩ := ba2 a7
        refine ⟨oc, od, osl, nm, q, g1, g2, b, sc, cc, cda, kV, doc, pm, ct, an, lk, of_decide_eq_true b1, of_decide_eq_true b2, initBodyB_ok a2, d1, of_decide_eq_true c1, by simpa using c2, by simpa using c3, of_decide_eq_true c4, of_decide_eq_true c5, of_decide_eq_true c6, of_decide_eq_true c7,
          fun y hy => of_decide_eq_true (List.all_eq_true.mp c8 y hy), ?_, ?_⟩
        · split at d2
          · rename_i ccl cdd vs ccs lkc
            split at d2
            · rename_i file tf hv
              exact ⟨ccl, cdd, vs, ccs, file, tf, lkc, hv, d2⟩
            · cases d2
          · cases d2
        · unfold cellB at a8
          split at a8
          · rename_i cl cld C' csl lkc
            have e := of_decide_eq_true a8
            subst e
            exact ⟨cl, cld, csl, lkc⟩
          · cases a8
      · cases a1
    · cases h
  · cases h
def excB (P : Program) (K : PySem.W.Frag) (C : Addr) (x f : Str) : Bool := oexB K C && (xfB K C && (decide (PySem.W.findIn K (.ref C) f = some none) && ((match PySem.W.findIn K (.ref C) "__init__" with
    | some (some (.ref fI)) => decide (PySem.W.typeIn K (.ref fI) = some (.type "function")) && initFnB P K C fI x f
    | _ => false) && (!(P.main.scope.names.lookup ("super" : Str)).isSome && (decide (PySem.W.nsIn K mainGlobals "super" = some none) && (decide (PySem.W.mroIn K C (.ref C) = some true) &&
  (decide (PySem.W.ks_superIn K C C "__init__" = some (some (.builtin "ValueError.__init__"))) && (decide (PySem.W.subIn K (.ref C) (.type "ValueError") = some true) && (decide (PySem.W.nsIn K cStatics "thirdparty.any" = some none) &&
    PySem.W.excInitIn K C [.type "ValueError", .type "Exception", .type "BaseException", .type "object"] "ValueError.__new__")))))))))
theorem excB_ok {P : Program} {K : PySem.W.Frag} {C : Addr} {x f : Str} (h : excB P K C x f = true) : ExcC P K C x f := by
  unfold excB at h
  obtain ⟨h1, h⟩ := ba2 h
  obtain ⟨h2, h⟩ := ba2 h
  obtain ⟨h3, h⟩ := ba2 h
  obtain ⟨h4, h⟩ := ba2 h
  obtain ⟨h5, h⟩ := ba2 h
  obtain ⟨h6, h⟩ := ba2 h
  obtain ⟨h7, h⟩ := ba2 h
  obtain ⟨h8, h⟩ := ba2 h
  obtain ⟨h9, h⟩ := ba2 h
  obtain ⟨h10, h11⟩ := ba2 h
  refine ⟨oexB_ok h1, xfB_ok h2, of_decide_eq_true h3, ?_, by simpa using h5, of_decide_eq_true h6, of_decide_eq_true h7, of_decide_eq_true h8, of_decide_eq_true h9, of_decide_eq_true h10, h11⟩
  split at h4
  · rename_i fI e
    obtain ⟨b1, b2⟩ := ba2 h4
    exact ⟨fI, e, of_decide_eq_true b1, initFnB_ok b2⟩
  · cases h4
def exmB (K : PySem.W.Frag) (C D : Addr) (b : Bool) : Bool := decide (PySem.W.exmOne K (.ref C) (.ref D) = some b)
theorem exmB_ok {K : PySem.W.Frag} {C D : Addr} {b : Bool} (h : exmB K C D b = true) : PySem.W.exmOne K (.ref C) (.ref D) = some b := of_decide_eq_true h
def obsY (n : Nat) (fa : List He.Fa) (fn : List He.DefD) (ts : List He.Tab) (ex : PySem.W.Frag → Bool) (g : Addr → Option Obj) : He.AlX := (He.obsT fa fn ts (He.frT g (He.asD g n ++ [cStatics])), ex (He.frT g (He.asD g n ++ [cStatics])))
def hookY (n : Nat) (fa : List He.Fa) (fn : List He.DefD) (ts : List He.Tab) (ex : PySem.W.Frag → Bool) : PySem.W.Hook where
  α := He.AlX
  obs := fun s => obsY n fa fn ts ex s.heap.get?
  val := fun w => He.valX fn ts w
  says := fun w h => ∃ K : PySem.W.Frag, K.In h ∧ He.SaysX fa fn ts [] ex w h K
  of := fun w s e => ⟨He.frT s.heap.get? (He.asD s.heap.get? n ++ [cStatics]), He.frT_in, { t := congrArg (fun z : He.AlX => z.1) e, more := congrArg (fun z : He.AlX => z.2) e, hd := fun p hp => by simp at hp, out := fun p hp => by simp at hp, empty := fun p hp => by simp at hp }⟩
  keeps := fun _ _ _ ⟨K, hK, c⟩ k => ⟨K, PySem.W.Frag.In.keeps hK k, ⟨c.t, c.more, c.hd, c.out, fun p hp => k _ _ (c.empty p hp)⟩⟩
end Y

namespace Y
open PySem PySem.Spec PyProof.Rows L2
abbrev gOf (sp : LSpX) : LSp := fun evs h Q => sp evs h Q fun _ _ _ => False
theorem FnX.g {P : Program} {w : World} {K : PySem.W.Frag} {mg : Str → Option Value} {base : Heap} {k : Nat} {f : Addr} {fd : FuncData} {ps : List Str} {sp : LSpX} (Fn : FnX P w K mg base k f fd ps sp) : FnG P w K mg base k f fd ps (gOf sp) := by
  refine ⟨fun evs h Q q => Fn.len _ _ _ _ q, fun A outer s H args us vs Q hr hG e0 hb r q => ?_⟩
  obtain ⟨m, h, evs, Pk, R, re, sq, kq⟩ := q
  refine codeAny_mono (Fn.run A outer s H args us vs Q (fun _ _ _ => False) hr hG e0 hb r ⟨m, h, evs, Pk, _, R, re, sq, kq, fun _ _ _ z => z.elim⟩) fun o s' ho => ?_
  match o, ho with
  | .error er, ⟨_, _, _, _, _, _, _, _, _, _, _, _, z⟩ => exact z.elim
  | .ok (.ret u), ho => exact ho
  | .ok .next, ho => exact ho.elim
  | .ok .brk, ho => exact ho.elim
  | .ok .cont, ho => exact ho.elim
end Y

namespace Y
open PySem PySem.Spec PyProof.Rows L2
def KAbs (K : PySem.W.Frag) (w : World) (a : Addr) (x : Str) : Prop := ∃ es n, K.lookup a = some ⟨.type "dict", none, .dict es n, #[]⟩ ∧ PySem.W.KeysLit w.params es.toList ∧ PySem.W.nsIn K a x = some none
structure KNo (K : PySem.W.Frag) (w : World) (a : Addr) (no : List (List Nat)) : Prop where
  low : (a == sysModules) = false
  miss : ∀ x ∈ no, KAbs K w a (S x)
section
variable {X : Cx}
end
end Y

namespace Y
open PySem PySem.Spec PyProof.Rows L2
end Y

namespace Y
open PySem PySem.Spec PyProof.Rows L2

def clsE (v : EV) (h : EH) : Option Addr := match v with
  | .ref r => match h[r]? with
    | some (.slo D _) => some D
    | _ => none
  | _ => none
def tyNames : List String := ["NoneType", "bool", "int", "str", "list", "dict", "tuple"]
structure IsiC (K : PySem.W.Frag) (C : Addr) (cs : List (Addr × Bool)) : Prop where
  ty : ∀ t ∈ tyNames, PySem.W.kitOne K (.type t) (.ref C) = some false
  cl : ∀ q ∈ cs, PySem.W.kitOne K (.ref q.1) (.ref C) = some q.2
def isiC (C : Addr) (cs : List (Addr × Bool)) : LC := fun vs h P => match vs with
  | [v, .adr c] => c = C ∧ match clsE v h with
    | some D => match cs.lookup D with
      | some b => P (.bl b) h
      | none => False
    | none => match tyE v h with
      | some _ => P (.bl false) h
      | none => False
  | _ => False
theorem tyE_names {v : EV} {h : EH} {t : String} (e : tyE v h = some t) (hc : clsE v h = none) : t ∈ tyNames := by
  unfold tyE at e
  unfold clsE at hc
  split at e <;> first
    | (cases e; simp [tyNames]; done)
    | (cases e; done)
    | (rename_i r
       split at e <;> first
         | (cases e; simp [tyNames]; done)
         | (cases e; done)
         | (rename_i q; simp [q] at hc; done))
section
variable {K : PySem.W.Frag} {m : Nat → Addr} {h : EH} {H : Hp}
theorem ty_of (R : RelH K m h H) {v : EV} {x : V} {t : String} (r1 : RelE K m h.length H v x) (et : tyE v h = some t) (hc : clsE v h = none) : TyX K H x (.type t) := by
  have hs : t ≠ "?" := fun z => by
    have := tyE_names et hc
    rw [z] at this
    simp [tyNames] at this
  unfold tyE at et
  split at et
  · rw [RelE] at r1; subst r1; cases et; exact .base .non
  · rw [RelE] at r1; subst r1; cases et; exact .base (.bl _)
  · rw [RelE] at r1; subst r1; cases et; exact .base (.int _)
  · rw [RelE] at r1; subst r1; cases et; exact .base (.str _)
  · rw [RelE] at r1
    obtain ⟨_, rfl⟩ := r1
    split at et
    · rename_i e
      obtain ⟨us, a, _⟩ := R.obj _ _ e
      cases et; exact .base (.lst a)
    · rename_i e
      obtain ⟨us, a, _⟩ := R.obj _ _ e
      cases et; exact .base (.dK a)
    · cases et; exact absurd rfl hs
    · cases et
  · rw [RelE] at r1
    obtain ⟨a, us, rfl, ha, _⟩ := r1
    cases et
    exact .base (.tup ha)
  · rw [RelE] at r1
    obtain ⟨a, us, rfl, ha, _⟩ := r1
    cases et
    rcases ha with (ha | ⟨o, ha⟩) | ⟨o, its, n, hk, hc, _⟩
    · exact .base (.tup ha)
    · exact .fTuple ha
    · exact .kTuple hk hc
  · cases et
theorem cls_of (R : RelH K m h H) {v : EV} {x : V} {D : Addr} (r1 : RelE K m h.length H v x) (hc : clsE v h = some D) : ∃ a dx ws, x = .ref a ∧ SlX.Slt H a D dx ws ∧ IsSl K H a D := by
  unfold clsE at hc
  split at hc
  · rename_i r
    rw [RelE] at r1
    obtain ⟨_, rfl⟩ := r1
    split at hc
    · rename_i e
      cases hc
      obtain ⟨io, dx, ws, sl, _, hd, _⟩ := R.obj _ _ e
      exact ⟨_, dx, ws, rfl, sl, io, dx, ws, sl, hd⟩
    · cases hc
  · cases hc
end
def rIsiCS (K : PySem.W.Frag) (C : Addr) : List V → Hp → VK → Prop := fun xs H Q => ∃ a D b, xs = [.ref a, .ref C] ∧ IsSl K H a D ∧ PySem.W.kitOne K (.ref D) (.ref C) = some b ∧ Q (.bl b) H
theorem call_isiCS {X : Cx} {C : Addr} : CallR X (.builtin "isinstance") (rIsiCS X.K C) := by
  intro pins s σ H xs us Q I r h
  obtain ⟨a, D, b, rfl, z, hT, q⟩ := h
  obtain ⟨u1, u2, rfl, r1, r2⟩ := vals2 r
  cases (show u1 = Value.ref a from r1)
  cases (show u2 = Value.ref C from r2)
  obtain ⟨ox, od, J⟩ := z.at I
  exact PySem.W.kia_one (kitx_own2 z.1) I.kIn J hT (fun y => nomatch y) fun tk => ⟨.bl b, H, I.tok tk, rfl, q⟩
theorem lc_isiC {X : Cx} {C : Addr} {cs : List (Addr × Bool)} (F : IsiC X.K C cs) : LCallR X (.builtin "isinstance") (isiC C cs) := by
  refine ⟨_, CallR.or call_isi (call_isiCS (C := C)), fun m h H vs xs P Q R r0 q k => ?_⟩
  unfold isiC at q
  split at q
  · rename_i v c
    obtain ⟨x, y, rfl, r1, r2⟩ := r0.two_inv
    rw [RelE] at r2
    subst r2
    obtain ⟨rfl, q⟩ := q
    split at q
    · rename_i D hD
      split at q
      · rename_i b hb
        obtain ⟨a, dx, ws, rfl, _, z⟩ := cls_of R r1 hD
        exact .inr ⟨_, _, _, rfl, z, F.cl _ (lookup_mem hb), k.same R q (by rw [RelE])⟩
      · exact q.elim
    · rename_i hD
      split at q
      · rename_i t ht
        exact .inl ⟨x, _, _, _, _, rfl, .own _, ty_of R r1 ht hD, F.ty _ (tyE_names ht hD), k.same R q (by rw [RelE])⟩
      · exact q.elim
  · exact q.elim
structure EqC (K : PySem.W.Frag) (C : Addr) (cs : List Addr) : Prop where
  ty : ∀ t ∈ tyNames, PySem.W.notFirst K C (.type t) = true
  cl : ∀ D ∈ cs, PySem.W.notFirst K C (.ref D) = true
def eqO (C : Addr) (cs : List Addr) (sp : LSp) (fb : LO) : LO := fun v w h P => match clsE v h with
  | some D => D = C ∧ (match clsE w h with
      | some D2 => D2 ∈ cs
      | none => match tyE w h with
        | some _ => True
        | none => False) ∧ sp [v, w] h P
  | none => fb v w h P
def rEqO (K : PySem.W.Frag) (C : Addr) (cs : List Addr) (sp : LSp) : R2 := fun x y H Q => ∃ a dx ws, x = .ref a ∧ SlX.Slt H a C dx ws ∧ ((∃ b D dy us, D ∈ cs ∧ y = .ref b ∧ SlX.Slt H b D dy us) ∨ ∃ t ∈ tyNames, TyX K H y (.type t)) ∧ upSp K sp [x, y] H Q
theorem op_eqO {X : Cx} {C g : Addr} {cs : List Addr} {k : Nat} {fd : FuncData} {ps : List Str} {sp : LSp} (T : EqC X.K C cs) (hs : Meth X.K C "__eq__" g) (F : FnG X.prog X.w X.K X.mg X.base k g fd ps sp) (hr : Room k X.A) (hG : X.A.guards = some []) (hb : Binds X.K fd ps []) : OpR X (compareOp .Eq) (rEqO X.K C cs sp) := by
  intro pins s σ H x y v u Q I rx ry h
  obtain ⟨a, dx, ws, rfl, ha, hy, q⟩ := h
  cases (show v = Value.ref a from rx)
  obtain ⟨sl, od, _, J, _⟩ := SlX.slt_inst I ha
  obtain ⟨m, hF⟩ := I.fr
  have go : ∀ tb, PySem.W.Looks (model X.prog X.w) s.heap (typeOf u) tb → PySem.W.notFirst X.K C tb = true → wpAny (model X.prog X.w) X.A (compareOp .Eq (.ref a) u) (EP X pins σ Q) X.xe s := by
    intro tb ht hn
    show wpAny (model X.prog X.w) X.A (richCompare .Eq (.ref a) u) (EP X pins σ Q) X.xe s
    refine PySem.W.cmp_K (op := .Eq) (tb := tb) hr.units0 hF I.ok.mod.kin J ht hn hs.at_ hs.fn ?_
    refine wpAny_mono (runG (us := [.ref a, u]) (vs := [.ref a, y]) F hr hG hb I (.cons rfl (.cons ry .nil)) q) (fun w s' z => ?_) fun _ _ x => x
    obtain ⟨z', H', I', rz, qz⟩ := z
    exact SlX.cmpback rz ⟨z', H', I', rz, qz⟩
  rcases hy with ⟨b, D, dy, us, hD, rfl, hb'⟩ | ⟨t, ht, ty⟩
  · cases (show u = Value.ref b from ry)
    obtain ⟨sl', od', _, J', _⟩ := SlX.slt_inst I hb'
    exact go _ J'.type (T.cl _ hD)
  · obtain ⟨P, Z, p, _⟩ := kit_of I ry ty
    exact go _ (Z.ty _ _ I.kIn p) (T.ty _ ht)
theorem lo_eqO {X : Cx} {C g : Addr} {cs : List Addr} {k : Nat} {fd : FuncData} {ps : List Str} {sp : LSp} {fb : LO} (T : EqC X.K C cs) (hs : Meth X.K C "__eq__" g) (F : FnG X.prog X.w X.K X.mg X.base k g fd ps sp) (hr : Room k X.A) (hG : X.A.guards = some []) (hb : Binds X.K fd ps [])
    (L : LOpR X (compareOp .Eq) fb) : LOpR X (compareOp .Eq) (eqO C cs sp fb) := by
  obtain ⟨r, hr', sim⟩ := L
  refine ⟨_, OpR.or (op_eqO T hs F hr hG hb) hr', fun m h H v w x y P Q R rx ry q kk => ?_⟩
  unfold eqO at q
  split at q
  · rename_i D hD
    obtain ⟨rfl, hw, q⟩ := q
    obtain ⟨a, dx, ws, rfl, sl, _⟩ := cls_of R rx hD
    have up : upSp X.K sp [.ref a, y] H Q := ⟨m, h, [v, w], P, R, .cons rx (.one ry), q, kk⟩
    refine .inl ⟨a, dx, ws, rfl, sl, ?_, up⟩
    split at hw
    · rename_i D2 h2
      obtain ⟨b, dy, us, rfl, sl2, _⟩ := cls_of R ry h2
      exact .inl ⟨b, D2, dy, us, hw, rfl, sl2⟩
    · rename_i h2
      split at hw
      · rename_i t ht
        exact .inr ⟨t, tyE_names ht h2, ty_of R ry ht h2⟩
      · exact hw.elim
  · exact .inr (sim m h H v w x y P Q R rx ry q kk)

def gSlA (K : PySem.W.Frag) (to : TE) (f : Str) : TG := fun y σ H Q => to σ H fun x H1 => ∃ a C dx p vs i, x = .ref a ∧ SlX.Slt H1 a C dx vs ∧ SlX.SCls K C ∧ SlX.Slot1 K C f p i ∧ Q σ (SlX.slH H1 a C dx (SlX.putS i y vs))
theorem pg_slA {X : Cx} {o : Expr} {f : Str} {pos : Pos} {to : TE} (ho : PE X o to) : PG X (.Attribute o f pos) (gSlA X.K to f) := by
  refine ⟨fun pins s σ H v u Q I r h => ?_⟩
  rw [assign_Attribute]
  refine wpAny_bind (wpAny_holding (thn (ho.run pins s σ H _ I h) fun ov s1 ⟨x, H1, I1, r1, a, C, dx, p, vs, i, ex, hs, c, t, q⟩ => ?_))
  subst ex
  obtain rfl : ov = Value.ref a := r1
  refine wpAny_bind (wpAny_standAt (wpAny_bind (wpAny_holding (SlX.setslot_ok I1 hs c t r fun s3 I3 => ?_))))
  exact wpAny_release ⟨σ, _, I3, q⟩
def putAt (tab : STab) (o v : EV) (h : EH) (P : EH → Prop) : Prop := match o with
  | .ref r => match h[r]? with
    | some (.slo C vs) => match tab.lookup C with
      | some i => P (h.set r (.slo C (putO i v vs)))
      | none => False
    | _ => False
  | _ => False
def lSetAt2 (tb1 tb2 : STab) (to1 to2 te : LT) : LS := fun D env h => te env h fun v h1 => match v with
  | .tup [x, y] => to1 env h1 fun o h2 => putAt tb1 o x h2 fun h3 => to2 env h3 fun o2 h4 => putAt tb2 o2 y h4 fun h5 => D.nx env h5
  | _ => False
section
variable {K : PySem.W.Frag} {m : Nat → Addr} {h : EH} {H : Hp}
theorem putAt_sim {tab : STab} {f : Str} (T : SlotOf K f tab) (R : RelH K m h H) {o v : EV} {xo x : V} (ro : RelE K m h.length H o xo) (rx : RelE K m h.length H v x) {P : EH → Prop} (q : putAt tab o v h P) :
    ∃ a C dx p vs i h2, xo = .ref a ∧ SlX.Slt H a C dx vs ∧ SlX.SCls K C ∧ SlX.Slot1 K C f p i ∧ P h2 ∧ Ex K m h.length H m h2.length (SlX.slH H a C dx (SlX.putS i x vs)) ∧ RelH K m h2 (SlX.slH H a C dx (SlX.putS i x vs)) := by
  unfold putAt at q
  split at q
  · rw [RelE] at ro
    obtain ⟨_, rfl⟩ := ro
    split at q
    · rename_i C vs e
      obtain ⟨io, dx, ws, s, ne, hd, r⟩ := R.obj _ _ e
      split at q
      · rename_i i ei
        obtain ⟨c, p, sl⟩ := T _ (lookup_mem ei)
        have Z := R.slot (i := i) e s ne hd r rx
        exact ⟨_, C, dx, p, ws, i, _, rfl, s, c, sl, q, Z.1, Z.2⟩
      · exact q.elim
    · exact q.elim
  · exact q.elim
end
theorem ls_attr2 {X : Cx} {o1 o2 e : Expr} {f1 f2 : Str} {p1 p2 pt pos : Pos} {kt : Nat} {tb1 tb2 : STab} {to1 to2 te : LT} (T1 : SlotOf X.K f1 tb1) (T2 : SlotOf X.K f2 tb2) (h1 : LE X o1 to1) (h2 : LE X o2 to2) (hv : LE X e te) (hc : X.calm = true)
    (hs : swapsWithSole [.Tuple [.Attribute o1 f1 p1, .Attribute o2 f2 p2] kt pt] e pos.line X.env = pure false := by rfl) (hw : swappedStores [.Tuple [.Attribute o1 f1 p1, .Attribute o2 f2 p2] kt pt] e X.env = pure none := by rfl)
    (ha : (assignEach [.Tuple [.Attribute o1 f1 p1, .Attribute o2 f2 p2] kt pt] X.env).map (·.2) = [assign (.Tuple [.Attribute o1 f1 p1, .Attribute o2 f2 p2] kt pt) X.env] := by rfl)
    (hn : (assignEach [Expr.Attribute o1 f1 p1, .Attribute o2 f2 p2] X.env).length = 2 := by rfl) (hst : (assignEach [Expr.Attribute o1 f1 p1, .Attribute o2 f2 p2] X.env).findIdx? (·.1) = none := by rfl)
    (c1 : (assignEach [Expr.Attribute o1 f1 p1, .Attribute o2 f2 p2] X.env).map (·.2) = assign (.Attribute o1 f1 p1) X.env :: (assignEach [Expr.Attribute o2 f2 p2] X.env).map (·.2) := by rfl)
    (c2 : (assignEach [Expr.Attribute o2 f2 p2] X.env).map (·.2) = assign (.Attribute o2 f2 p2) X.env :: (assignEach [] X.env).map (·.2) := by rfl) :
    LSt X (.Assign [.Tuple [.Attribute o1 f1 p1, .Attribute o2 f2 p2] kt pt] e pos) (lSetAt2 tb1 tb2 to1 to2 te) := by
  refine ⟨PS.imp (ps_asg hv.pe (pg_tup (k := kt) (pos := pt) hc (pgs_cons (pg_slA h1.pe) (pgs_cons (pg_slA h2.pe) pgs_nil c2) c1) hn hst) hs hw ha) fun D σ H ⟨m, env, h, P, at_, t1, k⟩ => ⟨m, env, h, _, at_, t1, fun v h1 q1 m1 H1 x E1 R1 r1 => ?_⟩⟩
  split at q1
  · rename_i x1 y1
    rw [RelE] at r1
    obtain ⟨a, vs, rfl, hT, rv⟩ := r1
    obtain ⟨u1, u2, rfl, ra, rb⟩ := rv.two_inv
    refine ⟨a, _, rfl, SqT.of hT, rfl, u1, [u2], rfl, m1, env, h1, _, at_.ex E1 R1, q1, fun o h2 q2 m2 H2 xo E2 R2 ro => ?_⟩
    obtain ⟨b, C, dx, p, ws, i, h3, rfl, hsl, hC, sl, q3, E3, R3⟩ := putAt_sim T1 R2 ro (RelE.ex E2 _ _ ra) q2
    refine ⟨b, C, dx, p, ws, i, rfl, hsl, hC, sl, u2, [], rfl, m2, env, h3, _, ((at_.ex E1 R1).ex E2 R2).ex E3 R3, q3, fun o2 h4 q4 m4 H4 xo2 E4 R4 ro2 => ?_⟩
    obtain ⟨b2, C2, dx2, p2, ws2, i2, h5, rfl, hsl2, hC2, sl2, q5, E5, R5⟩ := putAt_sim T2 R4 ro2 (RelE.ex ((E2.trans E3).trans E4) _ _ rb) q4
    exact ⟨b2, C2, dx2, p2, ws2, i2, rfl, hsl2, hC2, sl2, rfl, k.nx _ _ q5 m4 _ σ ((((E1.trans E2).trans E3).trans E4).trans E5) (((((at_.ex E1 R1).ex E2 R2).ex E3 R3).ex E4 R4).ex E5 R5)⟩
  · exact q1.elim
end Y

namespace Y
open PySem PySem.Spec PyProof.Rows L2

section
variable {M : Model} {A : Around} {E : Value → Shared → Prop} {s : Shared} {env : Env}
theorem callWith_type_kwB {pos : Pos} {id : String} {first : List Value} {args : List (Bool × Sem Value)} {keywords : List (Option Str × Sem Value)} {Q : Value → Shared → Prop}
    (hplain : args.any (·.1) = false) (hkw : keywords.any (·.1.isNone) = false)
    (h : wpAny M A (evalArgs (.type id) true args keywords) (fun a s₁ => wpAny M A (call (.type id) (first ++ a.pos) a.kw) Q E s₁) E s) :
    wpAny M A (callWith pos (.type id) first args keywords) Q E s := by
  unfold callWith
  refine wpAny_bind (wpAny_holding (wpAny_mono h (fun a s₁ h₁ => wpAny_bind (wpAny_standAt ?_)) fun _ _ x => x))
  simp only [hplain, hkw, Bool.or_false]
  refine wpAny_bind (wpAny_pure ?_)
  exact wpAny_bind (wpAny_mono h₁ (fun r s₂ hr => wpAny_bind (wpAny_holding (wpAny_point (wpAny_pure hr)))) fun _ _ x => x)
theorem callWith_tkw {pos : Pos} {id : String} {e : Expr} {rest : List Expr} {kws : List Keyword} {Q : Value → Shared → Prop}
    (h : wpAny M A (spliced (backTo pos (starEach (e :: rest) env))) (fun vs s₁ => wpAny M A (evalAll ((backToKw pos (keywordEach kws env)).map (·.2)))
      (fun kvs s₂ => wpAny M A (call (.type id) vs (((backToKw pos (keywordEach kws env)).filterMap (·.1)).zip kvs)) Q E s₂) E s₁) E s)
    (he : backTo pos (starEach (e :: rest) env) = (false, eval e env) :: backTo pos (starEach rest env) := by rfl)
    (hplain : (backTo pos (starEach (e :: rest) env)).any (·.1) = false := by rfl)
    (hall : (backToKw pos (keywordEach kws env)).all (·.1.isSome) = true := by rfl)
    (hkw : (backToKw pos (keywordEach kws env)).any (·.1.isNone) = false := by rfl) :
    wpAny M A (callWith pos (.type id) [] (backTo pos (starEach (e :: rest) env)) (backToKw pos (keywordEach kws env))) Q E s := by
  refine callWith_type_kwB hplain hkw ?_
  rw [he] at h ⊢
  exact evalArgs_kwB hall h
end
theorem piNS {X : Cx} {e f : Expr} {ta tk : TA} {p pos tpos kpos : Pos} {elts : List Expr} {kk : Nat} (hg : Gl X "enumerate") (hm : X.mg "enumerate" = none) (ha : PA X [e] ta) (hk : PK X [⟨some "start", f, kpos⟩] tk)
    (he : backTo pos (starEach [e] X.env) = (false, eval e X.env) :: backTo pos (starEach [] X.env) := by rfl) (hpl : (backTo pos (starEach [e] X.env)).any (·.1) = false := by rfl) :
    PI X (.Tuple elts kk tpos) (.Call (.Name "enumerate" p) [e] [⟨some "start", f, kpos⟩] pos) (fun σ H R => ta σ H fun vs H1 => tk σ H1 fun zs H2 => ∃ (a : Sc) (xs : List V) (k : Int), vs = [a.val] ∧ zs = [.int k] ∧ (0 ≤ k ∧ k < 2 ^ 62) ∧ a.is X.K H2 xs ∧ R (ItN X.K a k) H2) := by
  refine ⟨fun pins s σ H R I h => ?_⟩
  refine wpAny_Call_Name_kw (ld_blt I hg hm PyProof.Rows.boot_enumerate (callWith_tkw (thn (ha.run pos pins s σ H _ I h) fun us s0 ⟨vs, H0, I0, r0, q0⟩ => thn (hk.run pos pins s0 σ H0 _ I0 q0) fun ws s1 ⟨zs, H1, I1, r1, q1⟩ => ?_) he hpl rfl rfl))
  have ek : ((backToKw pos (keywordEach [⟨some "start", f, kpos⟩] X.env)).filterMap (·.1)) = [Str.ofString "start"] := rfl
  rw [ek]
  obtain ⟨a, xs, k, ex, ez, ⟨k0, k1⟩, hq, q⟩ := q1
  subst ex ez
  obtain ⟨u, rfl, r⟩ := r0.one
  obtain ⟨w, rfl, rk⟩ := r1.one
  obtain ⟨t, rfl⟩ := rk
  show wpAny _ _ (call (.type "enumerate") [u] [(Str.ofString "start", .int k t)]) _ _ _
  have fin : ∀ h' : Heap, IsEnum h' (s1.heap.objs.size + 1) s1.heap.objs.size k .none → a.st s1.heap.objs.size 0 h' → (∀ b o, s1.heap.get? b = some o → h'.get? b = some o) → (∀ b ∈ a.cell, b < s1.heap.objs.size) →
      PIE X pins σ (.Tuple elts kk tpos) R (.ref (s1.heap.objs.size + 1)) { s1 with heap := h' } := by
    intro h' he st hk hc
    have I2 : Inv X pins σ H1 { s1 with heap := h' } := I1.kept (t' := s1.toks) hk
    have n1 : s1.heap.objs.size ∉ a.cell := fun z => Nat.lt_irrefl _ (hc _ z)
    have n2 : s1.heap.objs.size + 1 ∉ s1.heap.objs.size :: a.cell := fun z => by
      rcases List.mem_cons.mp z with z | z
      · exact absurd z (Nat.succ_ne_self _)
      · exact absurd (hc _ z) (Nat.not_lt.mpr (Nat.le_succ _))
    refine ⟨s1.heap.objs.size + 1, [s1.heap.objs.size + 1, s1.heap.objs.size], _, _, H1, rfl, I2, turnN (k := k) (Nat.succ_ne_self _) n2 n1, ⟨⟨.none, by rw [show k + ((0 : Nat) : Int) = k by simp]; exact he⟩, st⟩, fun b hb => ?_, q⟩
    have e' : b = s1.heap.objs.size + 1 ∨ b = s1.heap.objs.size := by simpa using hb
    have hle : s1.heap.objs.size ≤ b := by
      rcases e' with z | z
      · rw [z]; exact Nat.le_add_right _ _
      · rw [z]; exact Nat.le_refl _
    exact I1.fpOk hle (I1.hok.fresh hle)
  have b0 : -(2 ^ 63 : Int) ≤ k := by omega
  have b1 : k < 2 ^ 63 := by omega
  match a, hq, r, fin with
  | .lst l, hq, r, fin =>
    obtain ⟨its, rv, p', hz⟩ := I1.list hq
    cases r
    refine enum_begins_start (begins_list l its.toArray) p'.isList b0 b1 fun h' he hit hsz hk => wpAny_pyIter_enum he (fin h' he ?_ hk fun b hb => ?_)
    · exact ⟨_, hit, rfl, rfl⟩
    · have e : b = l := by simpa [Sc.cell] using hb
      rw [e]; exact p'.lt
  | .tup l, hq, r, fin =>
    obtain ⟨its, rv, p', hz⟩ := I1.tuple hq
    cases r
    refine enum_begins_start (begins_tuple l its.toArray) p' b0 b1 fun h' he hit hsz hk => wpAny_pyIter_enum he (fin h' he ?_ hk fun b hb => ?_)
    · exact ⟨_, hit, rfl, rfl⟩
    · have e : b = l := by simpa [Sc.cell] using hb
      rw [e]
      obtain ⟨o, ho, _⟩ := p'
      exact Heap.lt_size ho
  | .txt x, hq, r, fin =>
    obtain ⟨t, rfl⟩ := r
    refine enum_begins_start (begins_text x t) trivial b0 b1 fun h' he hit hsz hk => wpAny_pyIter_enum he (fin h' he ?_ hk fun b hb => by simp [Sc.cell] at hb)
    exact ⟨t, _, hit, rfl, rfl⟩
def lEnumS (ta : LA) (tk : LT) : LI := fun env h P => ta env h fun vs h1 => match vs with
  | [x] => tk env h1 fun k h2 => match k with
    | .int k => (0 ≤ k ∧ k < 2 ^ 62) ∧ srcE x h2 fun g xs => P g (numE xs k) h2
    | _ => False
  | _ => False
theorem lit_enumS {X : Cx} {e f : Expr} {ta : LA} {tk : LT} {p pos tpos kpos : Pos} {elts : List Expr} {kk : Nat} (hg : Gl X "enumerate") (hm : X.mg "enumerate" = none) (ha : LAs X [e] ta) (hk : LE X f tk)
    (he : backTo pos (starEach [e] X.env) = (false, eval e X.env) :: backTo pos (starEach [] X.env) := by rfl) (hpl : (backTo pos (starEach [e] X.env)).any (·.1) = false := by rfl) :
    LIt X (.Tuple elts kk tpos) (.Call (.Name "enumerate" p) [e] [⟨some "start", f, kpos⟩] pos) (lEnumS ta tk) := by
  refine ⟨PI.imp (piNS hg hm ha.pa (pk_cons hk.pe pk_nil) he hpl) fun σ H R ⟨m, env, h, P, at_, t1, k⟩ => ⟨m, env, h, _, at_, t1, fun vs h1 p1 m1 H1 xs E1 R1 r1 => ?_⟩⟩
  split at p1
  · rename_i x
    obtain ⟨v, rfl, r2⟩ := r1.one_inv
    refine ⟨m1, env, h1, _, at_.ex E1 R1, p1, fun kv h2 p2 m2 H2 kx E2 R2 rk => ?_⟩
    split at p2
    · rename_i kn
      rw [RelE] at rk
      subst rk
      obtain ⟨kb, p2⟩ := p2
      obtain ⟨sc, g, ls, q, rfl, gh, sim⟩ := src_sim R2 (RelE.ex E2 _ _ r2) p2
      obtain ⟨us, u1, _⟩ := sim m2 h2 H2 .refl R2 gh
      refine ⟨sc, us, kn, rfl, rfl, kb, u1, k _ _ h2 q m2 H2 _ (E1.trans E2) R2 fun i h' m' H' E' R' gA => ?_⟩
      obtain ⟨us, u1, ru⟩ := sim m' h' H' E' R' gA
      refine ⟨fun z hz => ?_, fun hi => ⟨us, u1, by rw [numE_len] at hi; rw [← ru.length]; exact hi.symm⟩⟩
      obtain ⟨y, hy, rfl⟩ := numE_at hz
      obtain ⟨w, hw, rw'⟩ := ru.at hy
      refine ⟨⟨us, w, u1, hw⟩, fun v H2 ⟨T, w', ev, hT, eH, uw⟩ => ?_⟩
      have hw' := uw us u1
      rw [hw] at hw'
      cases hw'
      subst ev eH
      exact rel_pair R' hT (by rw [RelE]) rw'
    · exact p2.elim
  · exact p1.elim

end Y

namespace Y
open PySem PySem.Spec PyProof.Rows L2

def lKeys (te : LT) : LI := fun env h P => te env h fun v h1 => match v with
  | .ref r => match h1[r]? with
    | some (.dlk o l kvs) => P (fun h' => h'[r]? = some (.dlk o l kvs)) (kvs.map (·.1)) h1
    | _ => False
  | _ => False
theorem lit_keys {X : Cx} {tg e : Expr} {te : LT} (he : LE X e te) : LIt X tg e (lKeys te) := by
  refine ⟨PI.imp (pi_keys he.pe) fun σ H R ⟨m, env, h, P, at_, t1, k⟩ => ⟨m, env, h, _, at_, t1, fun v h1 p1 m1 H1 x E1 R1 r1 => ?_⟩⟩
  split at p1
  · rename_i r
    rw [RelE] at r1
    obtain ⟨hr, rfl⟩ := r1
    split at p1
    · rename_i o l kvs er
      obtain ⟨a, rl⟩ := R1.obj _ _ er
      refine ⟨_, o, rfl, .inl ⟨l, a, k _ _ h1 p1 m1 H1 _ E1 R1 fun i h' m' H' E' R' gh => ?_⟩⟩
      obtain ⟨a', rl'⟩ := R'.obj _ _ gh
      rw [E'.eq _ hr] at a'
      have ll := RelKV.length rl'
      refine ⟨fun z hz => ?_, fun hi => ⟨a', by rw [List.length_map] at hi; omega⟩⟩
      rw [List.getElem?_map] at hz
      obtain ⟨p, hp, rfl⟩ := Option.map_eq_some_iff.mp hz
      obtain ⟨k2, v2, e2, ra, rb⟩ := RelKV.at rl' hp
      refine ⟨⟨a', (List.getElem?_eq_some_iff.mp e2).1⟩, fun v H2 ⟨eH, k3, v3, e3, ev⟩ => ?_⟩
      rw [e2] at e3
      cases e3
      subst ev eH
      exact ⟨.refl, R', ra⟩
    · exact p1.elim
  · exact p1.elim
def prsE : List EV → Option (List (EV × EV))
  | [] => some []
  | .tup [k, v] :: r => (prsE r).map ((k, v) :: ·)
  | _ => none
def dictE : LC := fun vs h P => match vs with
  | [.ref r] => match h[r]? with
    | some (.dic kvs) => P (.ref h.length) (h ++ [.dic kvs])
    | some (.lst xs) => match prsE xs with
      | some ps => (∀ p ∈ ps, isKey p.1) ∧ P (.ref h.length) (h ++ [.dic (dAll ps)])
      | none => False
    | _ => False
  | _ => False
theorem rel_prs {K : PySem.W.Frag} {m : Nat → Addr} {n : Nat} {H : Hp} : ∀ {xs : List EV} {ps : List (EV × EV)} {vs : List V}, prsE xs = some ps → (∀ p ∈ ps, isKey p.1) → RelEs K m n H xs vs →
    ∃ (as : List Addr) (kvs : List (L2.Key × V)), vs = as.map V.ref ∧ Paired (fun p kv => SqT K H p [kV kv.1, kv.2]) as kvs ∧ RelKV K m n H ps kvs
  | [], ps, vs, e, _, r => by
    rw [prsE] at e
    cases e
    rw [RelEs] at r
    subst r
    exact ⟨[], [], rfl, .nil, rfl⟩
  | x :: xs, ps, vs, e, hk, r => by
    unfold prsE at e
    split at e
    · rename_i z
      cases z
    · rename_i k v rr z
      cases z
      obtain ⟨qs, eq, rfl⟩ := Option.map_eq_some_iff.mp e
      rw [RelEs] at r
      obtain ⟨w, l, rfl, r1, r2⟩ := r
      rw [RelE] at r1
      obtain ⟨a, us, rfl, ha, rk⟩ := r1
      obtain ⟨u1, u2, rfl, s1, s2⟩ := rk.two_inv
      obtain ⟨k', rfl⟩ := key_of (hk (k, v) (by simp)) s1
      obtain ⟨as, kvs, rfl, pp, rr⟩ := rel_prs eq (fun p hp => hk p (List.mem_cons_of_mem _ hp)) r2
      exact ⟨a :: as, (k', u2) :: kvs, rfl, .cons (SqT.of ha) pp, by rw [RelKV]; exact ⟨k', u2, kvs, rfl, s1, s2, rr⟩⟩
    · cases e
theorem lc_dictP {X : Cx} (hc : X.calm = true) : LCallR X (.type "dict") dictE := by
  refine ⟨_, CallR.or call_dictD (call_dictP hc), fun m h H vs xs P Q R r0 q k => ?_⟩
  unfold dictE at q
  split at q
  · obtain ⟨v, rfl, r⟩ := r0.one_inv
    rw [RelE] at r
    obtain ⟨_, rfl⟩ := r
    split at q
    · rename_i kvs e
      obtain ⟨l, a, rl⟩ := R.obj _ _ e
      refine .inl ⟨_, l, rfl, .inl a, fun p hp => ?_⟩
      have E : Ex X.K m h.length H (mput m h.length p) (h ++ [EO.dic kvs]).length (upd H p (.dK l)) := Ex.new hp
      have R2 : RelH X.K (mput m h.length p) (h ++ [EO.dic kvs]) (upd H p (.dK l)) := R.new hp ⟨l, upd_same, rl.ex E⟩
      exact k _ _ q _ _ _ E R2 (by rw [RelE]; exact ⟨by simp, by rw [mput_at]⟩)
    · rename_i xs e
      obtain ⟨us, a, rl⟩ := R.obj _ _ e
      split at q
      · rename_i ps ep
        obtain ⟨hk, q⟩ := q
        obtain ⟨as, kvs, rfl, pp, rk⟩ := rel_prs ep hk rl
        refine .inr ⟨_, as, kvs, rfl, SqL.of a, pp, fun p hp => ?_⟩
        have E : Ex X.K m h.length H (mput m h.length p) (h ++ [EO.dic (dAll ps)]).length (upd H p (.dK (mergeK [] kvs))) := Ex.new hp
        have R2 : RelH X.K (mput m h.length p) (h ++ [EO.dic (dAll ps)]) (upd H p (.dK (mergeK [] kvs))) := R.new hp ⟨_, upd_same, relKV_merge hk (rk.ex E) rfl⟩
        exact k _ _ q _ _ _ E R2 (by rw [RelE]; exact ⟨by simp, by rw [mput_at]⟩)
      · exact q.elim
    · exact q.elim
  · exact q.elim
def isiCB (K : PySem.W.Frag) (C : Addr) (cs : List (Addr × Bool)) : Bool := (tyNames.all fun t => decide (PySem.W.kitOne K (.type t) (.ref C) = some false)) && cs.all fun q => decide (PySem.W.kitOne K (.ref q.1) (.ref C) = some q.2)
theorem isiCB_ok {K : PySem.W.Frag} {C : Addr} {cs : List (Addr × Bool)} (h : isiCB K C cs = true) : IsiC K C cs := by
  obtain ⟨h1, h2⟩ := He.ba h
  exact ⟨fun t ht => of_decide_eq_true (List.all_eq_true.mp h1 t ht), fun q hq => of_decide_eq_true (List.all_eq_true.mp h2 q hq)⟩
def eqCB (K : PySem.W.Frag) (C : Addr) (cs : List Addr) : Bool := (tyNames.all fun t => PySem.W.notFirst K C (.type t)) && cs.all fun D => PySem.W.notFirst K C (.ref D)
theorem eqCB_ok {K : PySem.W.Frag} {C : Addr} {cs : List Addr} (h : eqCB K C cs = true) : EqC K C cs := by
  obtain ⟨h1, h2⟩ := He.ba h
  exact ⟨fun t ht => List.all_eq_true.mp h1 t ht, fun q hq => List.all_eq_true.mp h2 q hq⟩
end Y

namespace Y
open PySem PySem.Spec PyProof.Rows L2

def clearD : LM := fun v vs h P => match v, vs with
  | .ref r, [] => match h[r]? with
    | some (.dic _) => P .non (h.set r (.dic []))
    | _ => False
  | _, _ => False
theorem lm_clearD {K : PySem.W.Frag} : LMl K "dict" rDClear clearD := by
  intro m h H v x vs xs P Q R rx rv q k
  unfold clearD at q
  split at q
  · rename_i r
    rw [RelEs] at rv
    subst rv
    rw [RelE] at rx
    obtain ⟨hr, rfl⟩ := rx
    split at q
    · rename_i kvs e
      obtain ⟨l, a, rl⟩ := R.obj _ _ e
      have E := Ex.write (o := .dK []) (e' := EO.dic []) R e
      have R2 := R.write (o := .dK []) (e' := EO.dic []) e ⟨[], upd_same, rfl⟩
      exact ⟨_, l, rfl, rfl, a, k _ _ q _ _ _ E R2 (by rw [RelE])⟩
    · exact q.elim
  · exact q.elim
end Y

namespace Y
open PySem PySem.Spec PyProof.Rows L2

def MetOfX (X : Cx) (m : Str) (mt : Addr → Option LSpX) : Prop := ∀ C sp, mt C = some sp → SlX.SCls X.K C ∧ ∃ g k fd ps, Meth X.K C m g ∧ FnX X.prog X.w X.K X.mg X.base k g fd ps sp ∧ Room k X.A ∧ Binds X.K fd ps []
def metKX (mt : Addr → Option LSpX) (W : EW) (t : LA) (env : En) (P : EK) (v : EV) (h1 : EH) : Prop := match v with
  | .ref r => match h1[r]? with
    | some (.slo C _) => match mt C with
      | some sp => t env h1 fun vs h2 => sp (.ref r :: vs) h2 P fun C fs h3 => W C fs env h3
      | none => False
    | _ => False
  | _ => False
def lMetX (mt : Addr → Option LSpX) (W : EW) (to : LT) (t : LA) : LT := fun env h P => to env h fun v h1 => metKX mt W t env P v h1
section
variable {X : Cx} {pos pos' apos : Pos} {o e : Expr} {es : List Expr} {to te : LT} {t : LA} {W : EW}
theorem met1X {C g : Addr} {m : Str} {sp : LSpX} {k : Nat} {fd : FuncData} {ps : List Str} (c : SlX.SCls X.K C) (hm : Meth X.K C m g) (F : FnX X.prog X.w X.K X.mg X.base k g fd ps sp) (hr : Room k X.A) (hb : Binds X.K fd ps []) :
    MetOfX X m (List.lookup · [(C, sp)]) := by
  intro D sp' e
  have q := lookup_mem (show List.lookup D [(C, sp)] = some sp' from e)
  have e2 := List.mem_singleton.mp q
  cases e2
  exact ⟨c, g, k, fd, ps, hm, F, hr, hb⟩
theorem le_metX {mt : Addr → Option LSpX} {m : Str} {pl : Sem Bool} (T : MetOfX X m mt) (tk : Takes X (upX X.K W)) (hG : X.A.guards = some []) (ho : LE X o to) (ha : LAs X (e :: es) t)
    (hst : starEach (e :: es) X.env = (false, eval e X.env) :: starEach es X.env := by rfl) (hpl : (backTo pos (starEach es X.env)).any (·.1) = false := by rfl)
    (ht : eval (.Call (.Attribute o m apos) (e :: es) [] pos) X.env = (do
      let ov ← eval o X.env
      standAt apos.atName
      let (f, first) ← holding [ov] (getMethod ov m pl)
      callWith pos f first (backTo pos (starEach (e :: es) X.env)) (backToKw pos (keywordEach [] X.env))) := by rfl) :
    LE X (.Call (.Attribute o m apos) (e :: es) [] pos) (lMetX mt W to t) := by
  refine ⟨⟨fun pins s σ H Q I ⟨mm, env, h, P, at_, t1, k⟩ => ?_⟩⟩
  have hq : up X.K to σ H (fun x H1 => ∃ m1 h1 v, metKX mt W t env P v h1 ∧ Ex X.K mm h.length H m1 h1.length H1 ∧ RelH X.K m1 h1 H1 ∧ RelE X.K m1 h1.length H1 v x) := ⟨mm, env, h, _, at_, t1, fun v h1 p1 m1 H1 x E1 R1 r1 => ⟨m1, h1, v, p1, E1, R1, r1⟩⟩
  refine PySem.W.methodCall_KW (pl := pl) (thn (ho.pe.run pins s σ H _ I hq) fun u s1 ⟨x, H1, I1, rx, m1, h1, v, p1, E1, R1, r1⟩ => ?_) ht
  unfold metKX at p1
  split at p1
  · rename_i r
    rw [RelE] at r1
    obtain ⟨hlt, rfl⟩ := r1
    split at p1
    · rename_i C vs e
      obtain ⟨_, dx, ws, sl, _, _, _⟩ := R1.obj _ _ e
      split at p1
      · rename_i sp es
        obtain ⟨c, g, kk, fd, ps, hm, F, hr, hb⟩ := T _ _ es
        obtain rfl : u = Value.ref (m1 r) := rx
        refine SlX.getmethsl_ok I1 sl c hm ?_
        refine PySem.W.callWith_K (first := [.ref (m1 r)]) (h₀ := X.base) I.ok.mod.kin hm.kp (thn (ha.pa.run pos pins s1 σ H1 (fun vs H2 => upSpX X.K sp (.ref (m1 r) :: vs) H2 Q fun cls d H' => upX X.K W cls d σ H') I1 ⟨m1, env, h1, _, at_.ex E1 R1, p1, fun vs h2 p2 m2 H2 xs E2 R2 r2 =>
          ⟨m2, h2, _, P, _, R2, .cons (by rw [RelE]; exact ⟨Nat.lt_of_lt_of_le hlt E2.le, by rw [E2.eq _ hlt]⟩) r2, p2, k.ex (E1.trans E2), fun C fs h3 w3 m3 H3 dx l E3 R3 hd rf => ⟨m3, env, h3, C, fs, dx, l, ((at_.ex E1 R1).ex E2 R2).ex E3 R3, rfl, rfl, hd, rf, w3⟩⟩⟩) fun us s2 ⟨ws, H2, I2, rr, q2⟩ => ⟨I2.kIn, ?_⟩) hst hpl
        exact runX (us := .ref (m1 r) :: us) (vs := .ref (m1 r) :: ws) F tk hr hG hb I2 (.cons rfl rr) q2
      · exact p1.elim
    · exact p1.elim
  · exact p1.elim
end
end Y

namespace Y
open PySem PySem.Spec PyProof.Rows L2

def BagAt (h : EH) (b : Nat) : Prop := ∃ (c : Nat) (x y z : Int) (ns : List Int), h[b]? = some (.lst [.int x, .int y, .int z, .ref c]) ∧ h[c]? = some (.lst (ns.map EV.int)) ∧ c < b ∧ 0 ≤ x ∧ 0 ≤ y ∧ 0 ≤ z ∧ ns.length ≤ 63 ∧ ∀ n ∈ ns, 0 ≤ n
def is1 (b : Nat) : Nat → Prop := fun r => r = b
def spBag : LSp := fun evs h Q => ∃ ns : List Int, evs = [.ref 0] ∧ h = [.frz (ns.map EV.int)] ∧ ns.length ≤ 63 ∧ ∀ b h', BagAt h' b → Q (.ref b) h'
def spTake : LSp := fun evs h Q => ∃ (b : Nat) (many : Int), evs = [.ref b, .int many] ∧ 0 < many ∧ many < 2 ^ 60 ∧ BagAt h b ∧ ∀ d h', 0 ≤ d → d < many → Keep (is1 b) h h' → BagAt h' b → Q (.int d) h'
def spOne : LSp := fun evs h Q => ∃ (b l : Nat) (xs : List EV), evs = [.ref b, .ref l] ∧ h[l]? = some (.lst xs) ∧ xs ≠ [] ∧ xs.length ≤ sizeLine ∧ l ≠ b ∧ BagAt h b ∧ ∀ x h', x ∈ xs → Keep (is1 b) h h' → BagAt h' b → Q x h'
def spMixed : LSp := fun evs h Q => ∃ (b l : Nat) (xs : List EV), evs = [.ref b, .ref l] ∧ h[l]? = some (.lst xs) ∧ xs.length ≤ 1000000 ∧ l ≠ b ∧ BagAt h b ∧ ∀ r ys h', ys.Perm xs → Keep (is1 b) h h' → h.length ≤ r → h'[r]? = some (.lst ys) → BagAt h' b → Q (.ref r) h'
def rdBag : LS :=
    lRet (lLst (lCons (lC (.int 0)) (lCons (lC (.int 1234567891)) (lCons (lC (.int 0)) (lCons (lLc (lIt (lSl (lVar 0) (lPart none) (lPart (some (lC (.int 63)))))) (.nm 1) (lYes) (lCB absE (lCons (lVar 1) (lNil))) [1]) (lNil))))))
def rdTake : LS :=
    lSeq (lIfS (lB (lOp (eqE false) (lOp ixA (lVar 0) (lC (.int 0))) (lC (.int 0))))
      (lSeq (lSet (lOp ixA (lOp addE (lSl (lOp ixA (lVar 0) (lC (.int 3))) (lPart (some (lOp ixA (lVar 0) (lC (.int 2))))) (lPart none)) (lLst (lCons (lC (.int 0)) (lNil)))) (lC (.int 0))) 2) <|
    lSeq (lAugS (fun i j => i + j) (lVar 0) (lC (.int 2)) (lC (.int 1))) <|
    lSeq (lSetA (lVar 0) (lC (.int 0)) (lOp mulE (lVar 2) (lCB intOf (lCons (lOp geE (lVar 2) (lOp powE (lC (.int 10)) (lC (.int 18)))) (lNil))))) <|
    lSeq (lSet (lOp addE (lOp addE (lOp mulE (lOp ixA (lVar 0) (lC (.int 1))) (lC (.int 48271))) (lOp modE (lCB intOf (lCons (lVar 2) (lNil))) (lC (.int 2147483647)))) (lOp mulE (lC (.int 7919)) (lOp ixA (lVar 0) (lC (.int 2))))) 3) <|
    lSetA (lVar 0) (lC (.int 1)) (lOp modE (lCB intOf (lCons (lVar 3) (lNil))) (lC (.int 2147483647))))
      (lNext)) <|
    lSeq (lIfS (lB (lOp gtE (lOp ixA (lVar 0) (lC (.int 0))) (lC (.int 0))))
      (lSeq (lSet (lOp modE (lCB intOf (lCons (lOp ixA (lVar 0) (lC (.int 0))) (lNil))) (lVar 1)) 4) <|
    lSeq (lSetA (lVar 0) (lC (.int 0)) (lOp fdivE (lCB intOf (lCons (lOp ixA (lVar 0) (lC (.int 0))) (lNil))) (lVar 1))) <|
    lRet (lVar 4))
      (lNext)) <|
    lSeq (lSet (lOp modE (lCB intOf (lCons (lOp mulE (lOp addE (lOp ixA (lVar 0) (lC (.int 1))) (lC (.int 1))) (lC (.int 39373))) (lNil))) (lC (.int 1000000007))) 5) <|
    lSeq (lSet (lOp modE (lCB intOf (lCons (lOp mulE (lOp modE (lCB intOf (lCons (lOp mulE (lVar 5) (lVar 5)) (lNil))) (lC (.int 998244353))) (lC (.int 30011))) (lNil))) (lC (.int 998244353))) 6) <|
    lRet (lOp modE (lCB intOf (lCons (lOp fdivE (lVar 6) (lC (.int 7))) (lNil))) (lVar 1))
def rdOne : LS :=
    lRet (lOp ixA (lVar 1) (lCall spTake (lCons (lVar 0) (lCons (lCB lenE (lCons (lVar 1) (lNil))) (lNil)))))
def rdMixed : LS :=
    lSeq (lSet (lLst (lNil)) 2) <|
    lSeq (lFor (lIt (lVar 1)) (.nm 3)
      (lDrop (lBM "list" insertE (lVar 2) (lCons (lCall spTake (lCons (lVar 0) (lCons (lOp addE (lCB lenE (lCons (lVar 2) (lNil))) (lC (.int 1))) (lNil)))) (lCons (lVar 3) (lNil)))))) <|
    lRet (lVar 2)
theorem pureBag (evs : List EV) (h : EH) (Q : EK) (q : spBag evs h Q) : rdBag (endsOf Q) (startE ["_law_script", "_law_cell"] evs) h := by
  obtain ⟨ns, rfl, rfl, hl, q⟩ := q
  show rdBag (endsOf Q) [some (.ref 0), none] [.frz (ns.map EV.int)]
  simp only [rdBag, lSeq, lSet, lRet, lRetN, lDrop, lIfS, lOp, lVar, lC, lB, lT, lAnd, lOr, lNot, lIf, lAndV, lOrV, lNotV, lNil, lCons, lTup, lLst, lCB, lBM, lSl, lPart, lNext, lFor, lIt, lRng1, lRng2, lAsg, lPar, lSetI, lSetA, lAugS, lLc, lZip, lNeg, lCall, lChain, List.getElem?_cons_zero, List.getElem?_cons_succ, List.set_cons_zero, List.set_cons_succ, truE, wipeE, intP, intE, slE]
  have ec : cut (ns.map EV.int) none (some 63) = ns.map EV.int := by
    rw [show (63 : Int) = ((63 : Nat) : Int) from rfl, cut_to, List.take_of_length_le (by simpa using hl)]
  rw [ec]
  simp only [List.length_cons, List.length_nil, List.getElem?_append_right, Nat.le_refl, Nat.sub_self, List.getElem?_cons_zero, Nat.zero_add]
  refine lc_map (fun v => match v with
    | .int i => EV.int (i.natAbs : Int)
    | _ => .non) _ ?_ (fun acc => by simp) (fun x hx acc ky hy => ?_) ?_
  · rw [List.length_map, sizeL]; omega
  · obtain ⟨c, hc, rfl⟩ := List.mem_map.mp hx
    simp only [lBind, Pat.bind, lSeq, lSet, lRet, lRetN, lDrop, lIfS, lOp, lVar, lC, lB, lT, lAnd, lOr, lNot, lIf, lAndV, lOrV, lNotV, lNil, lCons, lTup, lLst, lCB, lBM, lSl, lPart, lNext, lFor, lIt, lRng1, lRng2, lAsg, lPar, lSetI, lSetA, lAugS, lLc, lZip, lNeg, lCall, lChain, List.getElem?_cons_zero, List.getElem?_cons_succ, List.set_cons_zero, List.set_cons_succ, truE, wipeE, intP, intE, absE]
    exact hy
  · rw [sizeL]
    refine ⟨by decide, ?_⟩
    refine q _ _ ⟨2, 0, 1234567891, 0, ns.map fun i => (i.natAbs : Int), ?_, ?_, ?_, by decide, by decide, by decide, ?_, ?_⟩
    · simp
    · simp
    · simp
    · simpa using hl
    · intro n hn
      obtain ⟨i, _, rfl⟩ := List.mem_map.mp hn
      omega
theorem lenBag (evs : List EV) (h : EH) (Q : EK) (q : spBag evs h Q) : evs.length = ["_law_script"].length := by
  obtain ⟨_, rfl, _⟩ := q; rfl
theorem take_end {b : Nat} {many : Int} {x y z : Int} {c : Nat} {ns : List Int} {Q : EK} {h h0 : EH} (hm : 0 < many) (hm2 : many < 2 ^ 60) (k0 : Keep (is1 b) h0 h)
    (e1 : h[b]? = some (.lst [.int x, .int y, .int z, .ref c])) (e2 : h[c]? = some (.lst (ns.map EV.int))) (hcb : c < b) (hx : 0 ≤ x) (hy : 0 ≤ y) (hz : 0 ≤ z) (hnl : ns.length ≤ 63) (hn : ∀ n ∈ ns, 0 ≤ n)
    (q : ∀ d h', 0 ≤ d → d < many → Keep (is1 b) h0 h' → BagAt h' b → Q (.int d) h') {env : En} (he : env.length = 7) (h0 : env[0]? = some (some (.ref b))) (h1 : env[1]? = some (some (.int many))) :
    (lSeq (lIfS (lB (lOp gtE (lOp ixA (lVar 0) (lC (.int 0))) (lC (.int 0))))
      (lSeq (lSet (lOp modE (lCB intOf (lCons (lOp ixA (lVar 0) (lC (.int 0))) (lNil))) (lVar 1)) 4) <|
    lSeq (lSetA (lVar 0) (lC (.int 0)) (lOp fdivE (lCB intOf (lCons (lOp ixA (lVar 0) (lC (.int 0))) (lNil))) (lVar 1))) <|
    lRet (lVar 4))
      (lNext)) <|
    lSeq (lSet (lOp modE (lCB intOf (lCons (lOp mulE (lOp addE (lOp ixA (lVar 0) (lC (.int 1))) (lC (.int 1))) (lC (.int 39373))) (lNil))) (lC (.int 1000000007))) 5) <|
    lSeq (lSet (lOp modE (lCB intOf (lCons (lOp mulE (lOp modE (lCB intOf (lCons (lOp mulE (lVar 5) (lVar 5)) (lNil))) (lC (.int 998244353))) (lC (.int 30011))) (lNil))) (lC (.int 998244353))) 6) <|
    lRet (lOp modE (lCB intOf (lCons (lOp fdivE (lVar 6) (lC (.int 7))) (lNil))) (lVar 1))) (endsOf Q) env h := by
  obtain ⟨g0, g1, g2, g3, g4, g5, g6, rfl⟩ : ∃ a b c d e f g, env = [a, b, c, d, e, f, g] := by
    match env, he with
    | [a, b, c, d, e, f, g], _ => exact ⟨a, b, c, d, e, f, g, rfl⟩
  simp only [List.getElem?_cons_zero, List.getElem?_cons_succ, Option.some.injEq] at h0 h1
  subst h0 h1
  simp only [lSeq, lSet, lRet, lRetN, lDrop, lIfS, lOp, lVar, lC, lB, lT, lAnd, lOr, lNot, lIf, lAndV, lOrV, lNotV, lNil, lCons, lTup, lLst, lCB, lBM, lSl, lPart, lNext, lFor, lIt, lRng1, lRng2, lAsg, lPar, lSetI, lSetA, lAugS, lLc, lZip, lNeg, lCall, lChain, List.getElem?_cons_zero, List.getElem?_cons_succ, List.set_cons_zero, List.set_cons_succ, truE, wipeE, intP, intE]
  refine ia_l e1 at0 ?_
  show if decide (0 < x) = true then _ else _
  split
  · refine ia_l e1 at0 ?_
    refine int_i ?_
    refine mod_i hm ?_
    refine ia_l e1 at0 ?_
    refine int_i ?_
    refine div_i hm (by omega) ?_
    refine sa_l e1 (k := 0) rfl ?_
    refine q _ _ (Int.emod_nonneg _ (by omega)) (Int.emod_lt_of_pos _ hm) (k0.trans (Keep.set rfl)) ?_
    exact ⟨c, x / many, y, z, ns, set_at e1, set_off e2 (Nat.ne_of_lt hcb), hcb, Int.ediv_nonneg hx (by omega), hy, hz, hnl, hn⟩
  · refine ia_l e1 at1 ?_
    refine add_i ?_
    refine mul_i (mulOk_r (by decide)) ?_
    refine int_i ?_
    refine mod_i (by decide) ?_
    generalize hE : (y + 1) * 39373 % 1000000007 = E
    have b1 : 0 ≤ E := by rw [← hE]; exact Int.emod_nonneg _ (by decide)
    have b2 : E < 1000000007 := by rw [← hE]; exact Int.emod_lt_of_pos _ (by decide)
    refine mul_i (mulOk_r (by omega)) ?_
    refine int_i ?_
    refine mod_i (by decide) ?_
    refine mul_i (mulOk_r (by decide)) ?_
    refine int_i ?_
    refine mod_i (by decide) ?_
    refine div_i (by decide) (by decide) ?_
    refine int_i ?_
    refine mod_i hm ?_
    exact q _ _ (Int.emod_nonneg _ (by omega)) (Int.emod_lt_of_pos _ hm) k0 ⟨c, x, y, z, ns, e1, e2, hcb, hx, hy, hz, hnl, hn⟩
theorem pureTake (evs : List EV) (h : EH) (Q : EK) (q : spTake evs h Q) : rdTake (endsOf Q) (startE ["_law_bag_here", "_law_many", "_law_cell", "_law_mixed_here", "_law_drawn", "_law_early", "_law_second"] evs) h := by
  obtain ⟨b, many, rfl, hm, hm2, ⟨c, x, y, z, ns, e1, e2, hcb, hx, hy, hz, hnl, hn⟩, q⟩ := q
  show rdTake (endsOf Q) [some (.ref b), some (.int many), none, none, none, none, none] h
  unfold rdTake
  rw [lSeq, lIfS]
  simp only [lB, lOp, lVar, lC, List.getElem?_cons_zero, List.getElem?_cons_succ]
  refine ia_l e1 at0 ?_
  refine eq_i ?_
  dsimp only
  split
  · simp only [lSeq, lSet, lAugS, lSetA, lOp, lVar, lC, lSl, lPart, lLst, lCons, lNil, lCB, List.getElem?_cons_zero, List.getElem?_cons_succ, List.set_cons_zero, List.set_cons_succ]
    refine ia_l e1 at3 ?_
    refine ia_l e1 at2 ?_
    refine sl_l e2 ?_
    refine ⟨by rw [sizeL]; decide, ?_⟩
    obtain ⟨zn, rfl⟩ := Int.eq_ofNat_of_zero_le hz
    rw [cut_from]
    have g1 : (h ++ [EO.lst ((ns.map EV.int).drop zn)] ++ [.lst [.int 0]])[h.length]? = some (.lst ((ns.map EV.int).drop zn)) := by simp
    have g2 : (h ++ [EO.lst ((ns.map EV.int).drop zn)] ++ [.lst [.int 0]])[(h ++ [EO.lst ((ns.map EV.int).drop zn)]).length]? = some (.lst [.int 0]) := new_at
    refine add_l g1 g2 ?_ ?_
    · simp only [List.length_drop, List.length_map, List.length_singleton]
      rw [sizeL]; omega
    obtain ⟨v, vs, hv0, hv⟩ : ∃ (v : Int) (vs : List EV), 0 ≤ v ∧ (ns.map EV.int).drop zn ++ [.int 0] = .int v :: vs := by
      cases hd : ns.drop zn with
      | nil => exact ⟨0, [], by decide, by rw [← List.map_drop, hd]; rfl⟩
      | cons n r => exact ⟨n, r.map EV.int ++ [.int 0], hn n (List.mem_of_mem_drop (i := zn) (by rw [hd]; exact List.mem_cons_self)), by rw [← List.map_drop, hd]; rfl⟩
    rw [hv]
    refine ia_l new_at at0 ?_
    generalize hg : h ++ [EO.lst ((ns.map EV.int).drop zn)] ++ [.lst [.int 0]] ++ [.lst (.int v :: vs)] = hA
    have kA : Keep (is1 b) h hA := by
      rw [← hg, List.append_assoc, List.append_assoc]; exact Keep.app _
    have a1 : hA[b]? = some (.lst [.int x, .int y, .int zn, .ref c]) := by
      rw [← hg]; exact app_at (app_at (app_at e1 _) _) _
    have a2 : hA[c]? = some (.lst (ns.map EV.int)) := kA.2 _ _ e2 (Nat.ne_of_lt hcb)
    clear hg g1 g2
    refine get_l a1 (by decide) rfl ?_
    dsimp only
    refine set_l a1 (k := 2) rfl ?_
    simp only [List.set_cons_zero, List.set_cons_succ]
    have b1 := set_at (o := EO.lst ([.int x, .int y, .int (zn + 1), .ref c] : List EV)) a1
    have b2 := set_off (o := EO.lst ([.int x, .int y, .int (zn + 1), .ref c] : List EV)) a2 (Nat.ne_of_lt hcb)
    have kB := kA.trans (Keep.set (o := EO.lst ([.int x, .int y, .int (zn + 1), .ref c] : List EV)) (show is1 b b from rfl))
    generalize hA.set b (.lst ([.int x, .int y, .int (zn + 1), .ref c] : List EV)) = hB at b1 b2 kB ⊢
    refine pow_i (by unfold CPow; decide) ?_
    refine ge_i ?_
    refine int_b ?_
    refine mul_i (mulOk_r (by split <;> decide)) ?_
    have hx' : 0 ≤ v * (if decide ((10 : Int) ^ Int.toNat 18 ≤ v) = true then 1 else 0) := by
      split <;> omega
    generalize v * (if decide ((10 : Int) ^ Int.toNat 18 ≤ v) = true then (1 : Int) else 0) = x' at hx' ⊢
    refine sa_l b1 (k := 0) rfl ?_
    simp only [List.set_cons_zero, List.set_cons_succ]
    have c1 := set_at (o := EO.lst ([.int x', .int y, .int (zn + 1), .ref c] : List EV)) b1
    have c2 := set_off (o := EO.lst ([.int x', .int y, .int (zn + 1), .ref c] : List EV)) b2 (Nat.ne_of_lt hcb)
    have kC := kB.trans (Keep.set (o := EO.lst ([.int x', .int y, .int (zn + 1), .ref c] : List EV)) (show is1 b b from rfl))
    generalize hB.set b (.lst ([.int x', .int y, .int (zn + 1), .ref c] : List EV)) = hC at c1 c2 kC ⊢
    refine ia_l c1 at1 ?_
    refine mul_i (mulOk_r (by decide)) ?_
    refine int_i ?_
    refine mod_i (by decide) ?_
    refine add_i ?_
    refine ia_l c1 at2 ?_
    refine mul_i (mulOk_l (by decide)) ?_
    refine add_i ?_
    refine int_i ?_
    refine mod_i (by decide) ?_
    have hy' : 0 ≤ (y * 48271 + v % 2147483647 + 7919 * ((zn : Int) + 1)) % 2147483647 := Int.emod_nonneg _ (by decide)
    generalize (y * 48271 + v % 2147483647 + 7919 * ((zn : Int) + 1)) % 2147483647 = y' at hy' ⊢
    refine sa_l c1 (k := 1) rfl ?_
    simp only [List.set_cons_zero, List.set_cons_succ]
    have d1 := set_at (o := EO.lst ([.int x', .int y', .int (zn + 1), .ref c] : List EV)) c1
    have d2 := set_off (o := EO.lst ([.int x', .int y', .int (zn + 1), .ref c] : List EV)) c2 (Nat.ne_of_lt hcb)
    have kD := kC.trans (Keep.set (o := EO.lst ([.int x', .int y', .int (zn + 1), .ref c] : List EV)) (show is1 b b from rfl))
    exact take_end (env := [some (.ref b), some (.int many), some (.int v), some _, none, none, none]) hm hm2 kD d1 d2 hcb hx' hy' (by omega) hnl hn q rfl rfl rfl
  · exact take_end (env := [some (.ref b), some (.int many), none, none, none, none, none]) hm hm2 .refl e1 e2 hcb hx hy hz hnl hn q rfl rfl rfl
theorem lenTake (evs : List EV) (h : EH) (Q : EK) (q : spTake evs h Q) : evs.length = ["_law_bag_here", "_law_many"].length := by
  obtain ⟨_, _, rfl, _⟩ := q; rfl
theorem Keep.other {b l : Nat} {h h' : EH} {o : EO} (k : Keep (is1 b) h h') (e : h[l]? = some o) (n : l ≠ b) : h'[l]? = some o := k.2 _ _ e n
theorem pureOne (evs : List EV) (h : EH) (Q : EK) (q : spOne evs h Q) : rdOne (endsOf Q) (startE ["_law_bag_here", "_law_some"] evs) h := by
  obtain ⟨b, l, xs, rfl, e, hne, hl, hlb, B, q⟩ := q
  show rdOne (endsOf Q) [some (.ref b), some (.ref l)] h
  simp only [rdOne, lSeq, lSet, lRet, lRetN, lDrop, lIfS, lOp, lVar, lC, lB, lT, lAnd, lOr, lNot, lIf, lAndV, lOrV, lNotV, lNil, lCons, lTup, lLst, lCB, lBM, lSl, lPart, lNext, lFor, lIt, lRng1, lRng2, lAsg, lPar, lSetI, lSetA, lAugS, lLc, lZip, lNeg, lCall, lChain, List.getElem?_cons_zero, List.getElem?_cons_succ, List.set_cons_zero, List.set_cons_succ, truE, wipeE, intP, intE]
  refine len_l e ?_
  have hp : 0 < xs.length := List.length_pos_iff.mpr hne
  refine ⟨b, xs.length, rfl, by omega, by rw [sizeL] at hl; omega, B, fun d h1 d0 d1 k1 B1 => ?_⟩
  obtain ⟨n, rfl⟩ := Int.eq_ofNat_of_zero_le d0
  have hn : n < xs.length := by omega
  refine ia_l (k1.other e hlb) (L2.atI_nat (List.getElem?_eq_getElem hn)) ?_
  exact q _ _ (List.getElem_mem hn) k1 B1
theorem lenOne (evs : List EV) (h : EH) (Q : EK) (q : spOne evs h Q) : evs.length = ["_law_bag_here", "_law_some"].length := by
  obtain ⟨_, _, _, rfl, _⟩ := q; rfl
theorem BagAt.keep {h h' : EH} {b : Nat} (B : BagAt h b) (k : Keep no1 h h') : BagAt h' b := by
  obtain ⟨c, x, y, z, ns, e1, e2, r⟩ := B
  exact ⟨c, x, y, z, ns, k.at e1, k.at e2, r⟩
theorem BagAt.lt {h : EH} {b : Nat} (B : BagAt h b) : b < h.length := by
  obtain ⟨c, x, y, z, ns, e1, _⟩ := B
  exact lt_of_at e1
theorem BagAt.set {h : EH} {b r : Nat} {o : EO} (B : BagAt h b) (n : b < r) : BagAt (h.set r o) b := by
  obtain ⟨c, x, y, z, ns, e1, e2, l, r'⟩ := B
  exact ⟨c, x, y, z, ns, set_off e1 (Nat.ne_of_lt n), set_off e2 (Nat.ne_of_lt (Nat.lt_trans l n)), l, r'⟩
theorem pureMixed (evs : List EV) (h : EH) (Q : EK) (q : spMixed evs h Q) : rdMixed (endsOf Q) (startE ["_law_bag_here", "_law_things", "_law_found", "_law_thing"] evs) h := by
  obtain ⟨b, l, xs, rfl, e, hl, hlb, B, q⟩ := q
  show rdMixed (endsOf Q) [some (.ref b), some (.ref l), none, none] h
  simp only [rdMixed, lSeq, lSet, lRet, lRetN, lDrop, lIfS, lOp, lVar, lC, lB, lT, lAnd, lOr, lNot, lIf, lAndV, lOrV, lNotV, lNil, lCons, lTup, lLst, lCB, lBM, lSl, lPart, lNext, lFor, lIt, lRng1, lRng2, lAsg, lPar, lSetI, lSetA, lAugS, lLc, lZip, lNeg, lCall, lChain, List.getElem?_cons_zero, List.getElem?_cons_succ, List.set_cons_zero, List.set_cons_succ, truE, wipeE, intP, intE, List.length_nil]
  refine ⟨by rw [sizeL]; decide, ?_⟩
  have hlt := lt_of_at e
  have hbt := B.lt
  rw [app_at e]
  refine loop_ind (fun left env h' => ∃ (done acc : List EV) (x : Option EV), xs = done ++ left ∧ acc.Perm done ∧ env = [some (.ref b), some (.ref l), some (.ref h.length), x] ∧ Keep (is1 b) h h' ∧ h'[h.length]? = some (.lst acc) ∧ BagAt h' b) ?_ ?_ _ _ _ ⟨[], [], none, rfl, .refl _, rfl, Keep.app _, new_at, B.keep (Keep.app _)⟩
  · rintro env h' ⟨done, acc, x, rfl, p, rfl, k, e', B'⟩
    refine ⟨k.other e hlb, ?_⟩
    simp only [lSeq, lSet, lRet, lRetN, lDrop, lIfS, lOp, lVar, lC, lB, lT, lAnd, lOr, lNot, lIf, lAndV, lOrV, lNotV, lNil, lCons, lTup, lLst, lCB, lBM, lSl, lPart, lNext, lFor, lIt, lRng1, lRng2, lAsg, lPar, lSetI, lSetA, lAugS, lLc, lZip, lNeg, lCall, lChain, List.getElem?_cons_zero, List.getElem?_cons_succ, List.set_cons_zero, List.set_cons_succ, truE, wipeE, intP, intE]
    exact q _ _ _ (by simpa using p) k (Nat.le_refl _) e' B'
  · rintro x left env h' kk ⟨done, acc, x0, rfl, p, rfl, k, e', B'⟩ hk
    refine ⟨k.other e hlb, ?_⟩
    simp only [lBind, Pat.bind, lSeq, lSet, lRet, lRetN, lDrop, lIfS, lOp, lVar, lC, lB, lT, lAnd, lOr, lNot, lIf, lAndV, lOrV, lNotV, lNil, lCons, lTup, lLst, lCB, lBM, lSl, lPart, lNext, lFor, lIt, lRng1, lRng2, lAsg, lPar, lSetI, lSetA, lAugS, lLc, lZip, lNeg, lCall, lChain, List.getElem?_cons_zero, List.getElem?_cons_succ, List.set_cons_zero, List.set_cons_succ, truE, wipeE, intP, intE, isTy, e']
    refine ⟨trivial, ?_⟩
    refine len_l e' ?_
    refine add_i ?_
    have hz : acc.length = done.length := p.length_eq
    simp only [List.length_append, List.length_cons] at hl
    refine ⟨b, acc.length + 1, rfl, by omega, by omega, B', fun d h1 d0 d1 k1 B1 => ?_⟩
    have hne : h.length ≠ b := by omega
    have e1 := k1.other e' hne
    refine ins_e e1 (by rw [sizeL]; omega) d0 (by omega) ?_
    refine hk _ _ ⟨done ++ [x], _, some x, by simp, ?_, rfl, ?_, set_at e1, ?_⟩
    · have p1 : (List.take d.toNat acc ++ [x] ++ List.drop d.toNat acc).Perm (x :: acc) := by
        have e3 : List.take d.toNat acc ++ [x] ++ List.drop d.toNat acc = List.take d.toNat acc ++ x :: List.drop d.toNat acc := by simp
        rw [e3]
        exact List.perm_middle.trans (by rw [List.take_append_drop])
      refine p1.trans ((p.cons x).trans ?_)
      exact (List.perm_append_singleton x done).symm
    · exact (k.trans k1).fresh (Nat.le_refl _)
    · exact B1.set hbt
theorem lenMixed (evs : List EV) (h : EH) (Q : EK) (q : spMixed evs h Q) : evs.length = ["_law_bag_here", "_law_things"].length := by
  obtain ⟨_, _, _, rfl, _⟩ := q; rfl
end Y

namespace Y
open PySem PySem.Spec PyProof.Rows L2

def rdAlpha : LS :=
    lRet (lSl (lCall spMixed (lCons (lVar 0) (lCons (lLst (lCons (lC (.int 0)) (lCons (lC (.int 1)) (lCons (lC (.int 2)) (lCons (lC (.int 3)) (lCons (lC (.int 48)) (lCons (lC (.int 999999999)) (lCons (lOp powE (lC (.int 10)) (lC (.int 9))) (lNil))))))))) (lNil)))) (lPart none) (lPart (some (lCall spOne (lCons (lVar 0) (lCons (lLst (lCons (lC (.int 2)) (lCons (lC (.int 3)) (lCons (lC (.int 2)) (lCons (lC (.int 1)) (lCons (lC (.int 4)) (lNil))))))) (lNil)))))))
def rdFull : LS :=
    lRet (lCB tupleOf (lCons (lLc (lRng1 (lCons (lVar 2) (lNil))) (.nm 3) (lYes) (lCall spOne (lCons (lVar 0) (lCons (lVar 1) (lNil)))) [3]) (lNil)))
def spAlpha : LSp := fun evs h Q => ∃ b : Nat, evs = [.ref b] ∧ BagAt h b ∧ ∀ (r : Nat) (ns : List Int) (h' : EH), ns.Nodup → 0 < ns.length → ns.length ≤ 4 → (∀ n ∈ ns, 0 ≤ n ∧ n ≤ 1000000000) → Keep (is1 b) h h' → h.length ≤ r → h'[r]? = some (.lst (ns.map EV.int)) → BagAt h' b → Q (.ref r) h'
def spFull : LSp := fun evs h Q => ∃ (b l size : Nat) (ns : List Int), evs = [.ref b, .ref l, .int size] ∧ h[l]? = some (.lst (ns.map EV.int)) ∧ ns ≠ [] ∧ ns.length ≤ 1000 ∧ l ≠ b ∧ size ≤ 1000000 ∧ BagAt h b ∧
  ∀ (ms : List Int) (h' : EH), ms.length = size → (∀ m ∈ ms, m ∈ ns) → Keep (is1 b) h h' → BagAt h' b → Q (.tup (ms.map EV.int)) h'
theorem pureAlpha (evs : List EV) (h : EH) (Q : EK) (q : spAlpha evs h Q) : rdAlpha (endsOf Q) (startE ["_law_bag_here"] evs) h := by
  obtain ⟨b, rfl, B, q⟩ := q
  show rdAlpha (endsOf Q) [some (.ref b)] h
  simp only [rdAlpha, lSeq, lSet, lRet, lRetN, lDrop, lIfS, lOp, lVar, lC, lB, lT, lAnd, lOr, lNot, lIf, lAndV, lOrV, lNotV, lNil, lCons, lTup, lLst, lCB, lBM, lSl, lPart, lNext, lFor, lIt, lRng1, lRng2, lAsg, lPar, lSetI, lSetA, lAugS, lLc, lZip, lNeg, lCall, lChain, List.getElem?_cons_zero, List.getElem?_cons_succ, List.set_cons_zero, List.set_cons_succ, wipeE, intP, intE]
  refine ⟨by unfold CPow; decide, by simp [sizeL], ?_⟩
  have hb := B.lt
  have eM : [EV.int 0, EV.int 1, EV.int 2, EV.int 3, EV.int 48, EV.int 999999999, EV.int (10 ^ Int.toNat 9)] = ([0, 1, 2, 3, 48, 999999999, 1000000000] : List Int).map EV.int := by simp
  rw [eM]
  refine ⟨b, _, _, rfl, new_at, by simp, Nat.ne_of_gt hb, B.keep (Keep.app _), fun r ys h1 pm k1 g1 e1 B1 => ?_⟩
  refine ⟨by simp [sizeL], ?_⟩
  refine ⟨b, _, _, rfl, new_at, by simp, by simp [sizeL], Nat.ne_of_gt B1.lt, B1.keep (Keep.app _), fun x h2 hx k2 B2 => ?_⟩
  obtain ⟨zs, rfl, pz⟩ : ∃ zs : List Int, ys = zs.map EV.int ∧ zs.Perm [0, 1, 2, 3, 48, 999999999, 1000000000] := by
    have key : ∀ (ys : List EV) (l : List Int), ys.Perm (l.map EV.int) → ∃ zs : List Int, ys = zs.map EV.int ∧ zs.Perm l := by
      intro ys l hp
      have hs : ∀ y ∈ ys, ∃ i, y = EV.int i := fun y hy => by
        obtain ⟨i, _, rfl⟩ := List.mem_map.mp (hp.mem_iff.mp hy)
        exact ⟨i, rfl⟩
      let f : EV → Int := fun v => match v with
        | .int i => i
        | _ => 0
      refine ⟨ys.map f, ?_, ?_⟩
      · rw [List.map_map]
        conv => lhs; rw [← List.map_id ys]
        refine List.map_congr_left fun y hy => ?_
        obtain ⟨i, rfl⟩ := hs y hy
        rfl
      · have := hp.map f
        rw [List.map_map] at this
        rw [show l.map (f ∘ EV.int) = l from by
          conv => rhs; rw [← List.map_id l]
          rfl] at this
        exact this
    exact key _ _ pm
  obtain ⟨m, rfl, m1, m2⟩ : ∃ m : Nat, x = .int m ∧ 0 < m ∧ m ≤ 4 := by
    simp only [List.mem_cons, List.not_mem_nil, or_false] at hx
    rcases hx with rfl | rfl | rfl | rfl | rfl
    · exact ⟨2, rfl, by decide, by decide⟩
    · exact ⟨3, rfl, by decide, by decide⟩
    · exact ⟨2, rfl, by decide, by decide⟩
    · exact ⟨1, rfl, by decide, by decide⟩
    · exact ⟨4, rfl, by decide, by decide⟩
  simp only []
  have g2 : h.length + 1 ≤ r := by simpa using g1
  have e2 := k2.other (app_at e1 _) (show r ≠ b by omega)
  refine sl_l e2 ?_
  rw [cut_to, ← List.map_take]
  have lz : zs.length = 7 := by rw [pz.length_eq]; rfl
  have kk : Keep (is1 b) h h2 := ((Keep.app _).trans k1).trans ((Keep.app _).trans k2)
  refine q _ _ _ ?_ ?_ ?_ (fun n hn => ?_) (kk.trans (Keep.app _)) kk.1 new_at (B2.keep (Keep.app _))
  · exact ((pz.nodup_iff).mpr (by decide)).sublist (List.take_sublist _ _)
  · rw [List.length_take]; omega
  · rw [List.length_take]; omega
  · have := pz.mem_iff.mp (List.mem_of_mem_take hn)
    simp only [List.mem_cons, List.not_mem_nil, or_false] at this
    omega
theorem pureFull (evs : List EV) (h : EH) (Q : EK) (q : spFull evs h Q) : rdFull (endsOf Q) (startE ["_law_bag_here", "_law_letters", "_law_size", "_law_k"] evs) h := by
  obtain ⟨b, l, size, ns, rfl, e, ne, nl, hlb, hs, B, q⟩ := q
  show rdFull (endsOf Q) [some (.ref b), some (.ref l), some (.int size), none] h
  simp only [rdFull, lSeq, lSet, lRet, lRetN, lDrop, lIfS, lOp, lVar, lC, lB, lT, lAnd, lOr, lNot, lIf, lAndV, lOrV, lNotV, lNil, lCons, lTup, lLst, lCB, lBM, lSl, lPart, lNext, lFor, lIt, lRng1, lRng2, lAsg, lPar, lSetI, lSetA, lAugS, lLc, lZip, lNeg, lCall, lChain, List.getElem?_cons_zero, List.getElem?_cons_succ, List.set_cons_zero, List.set_cons_succ, wipeE, intP, intE]
  refine ⟨⟨by omega, by omega⟩, ?_⟩
  have hb := B.lt
  have hl := lt_of_at e
  refine lc_ind (fun left acc h' => ∃ ms : List Int, acc = ms.map EV.int ∧ (∀ m ∈ ms, m ∈ ns) ∧ ms.length + left.length = size ∧ Keep (is1 b) h h' ∧ BagAt h' b ∧ ∀ v ∈ left, ∃ i : Int, v = .int i) ?_ ?_ _ [] _ new_at ⟨[], rfl, fun c hc => by simp at hc, by simp [rangeL], Keep.app _, B.keep (Keep.app _), ?_⟩
  · rintro acc h4 ⟨ms, rfl, hm, hl4, k4, B4, _⟩ e4
    refine ⟨trivial, ?_⟩
    simp only [tupleOf, e4]
    exact q _ _ (by simpa using hl4) hm k4 B4
  · rintro x left acc h4 ky kn ⟨ms, rfl, hm, hl4, k4, B4, hle⟩ e4 hky _
    obtain ⟨xi, rfl⟩ := hle x (by simp)
    refine ⟨trivial, bind_nm ?_⟩
    simp only [lYes, lSeq, lSet, lRet, lRetN, lDrop, lIfS, lOp, lVar, lC, lB, lT, lAnd, lOr, lNot, lIf, lAndV, lOrV, lNotV, lNil, lCons, lTup, lLst, lCB, lBM, lSl, lPart, lNext, lFor, lIt, lRng1, lRng2, lAsg, lPar, lSetI, lSetA, lAugS, lLc, lZip, lNeg, lCall, lChain, List.getElem?_cons_zero, List.getElem?_cons_succ, List.set_cons_zero, List.set_cons_succ, wipeE, intP, intE, if_true]
    refine ⟨b, l, _, rfl, k4.other e hlb, by simpa using ne, by rw [List.length_map, sizeL]; omega, hlb, B4, fun y h5 hy k5 B5 => ?_⟩
    obtain ⟨c, hc, rfl⟩ := List.mem_map.mp hy
    have hbl := B4.lt
    simp only [List.length_cons] at hl4
    refine hky _ _ (k5.other e4 (by omega)) (by rw [List.length_map, sizeL]; omega) ⟨ms ++ [c], by simp, ?_, by simp; omega, (k4.trans k5).fresh (Nat.le_refl _), B5.set hb, fun v hv => hle v (List.mem_cons_of_mem _ hv)⟩
    intro z hz
    rcases List.mem_append.mp hz with z1 | z1
    · exact hm z z1
    · rw [List.mem_singleton.mp z1]; exact hc
  · intro v hv
    unfold rangeL at hv
    obtain ⟨i, _, rfl⟩ := List.mem_map.mp hv
    exact ⟨_, rfl⟩
end Y

namespace Y
open PySem PySem.Spec PyProof.Rows L2
structure Ad where
  a_Book : Addr
  a_Comparer : Addr
  a_Watch : Addr
  a_GainTable : Addr
  a_GameTable : Addr
  a_Lane : Addr
  a_Machine : Addr
  a_Nearest : Addr
  a_Prices : Addr
  a_Rulebook : Addr
  a_Sender : Addr
  a_Speaker : Addr
  a_Standing : Addr
  a_Writer : Addr
  a_Tails : Addr
  a_Teasing : Addr
  a_VersusTable : Addr
  a_WaitTable : Addr
  a_TURNED : Addr
  a_WORD_OF : Addr
  a_WORDS : Addr
  a_STEP_OF : Addr
  a_AlreadyEnded : Addr
  a_BadArrow : Addr
  a_BadLine : Addr
  a_BadRule : Addr
  a_BeyondEnd : Addr
  a_Broken : Addr
  a_Contradiction : Addr
  a_DoesNotFit : Addr
  a_Ended : Addr
  a_EndsShort : Addr
  a_Finished : Addr
  a_KeepNotShown : Addr
  a_NeedsNoPromise : Addr
  a_NoDeed : Addr
  a_NoElder : Addr
  a_NoRule : Addr
  a_NoSaying : Addr
  a_NoStand : Addr
  a_NoSuchLetter : Addr
  a_NoTick : Addr
  a_NoWait : Addr
  a_NotARing : Addr
  a_NotAScript : Addr
  a_NotAWalk : Addr
  a_NotClaimed : Addr
  a_NotComparable : Addr
  a_NotHeights : Addr
  a_NotLet : Addr
  a_NotOnRim : Addr
  a_NotSent : Addr
  a_NotWhole : Addr
  a_Nothing : Addr
  a_Stopped : Addr
  a_TooMany : Addr
  a_UnderLag : Addr
  a_UnderTotal : Addr
  a_Unsettled : Addr
  a_Wrong : Addr
theorem atI_n {α : Type} (xs : List α) (i : Nat) : atI xs (i : Int) = xs[i]? := by
  by_cases h : i < xs.length
  · exact (L2.atI_nat (List.getElem?_eq_getElem h)).trans (List.getElem?_eq_getElem h).symm
  · rw [List.getElem?_eq_none (by omega)]
    unfold atI ixN
    rw [if_pos (by omega), if_neg (by omega)]
    rfl
theorem atI_0 {α : Type} (xs : List α) : atI xs 0 = xs[0]? := atI_n xs 0
theorem atI_1 {α : Type} (xs : List α) : atI xs 1 = xs[1]? := atI_n xs 1
theorem atI_2 {α : Type} (xs : List α) : atI xs 2 = xs[2]? := atI_n xs 2
theorem atI_3 {α : Type} (xs : List α) : atI xs 3 = xs[3]? := atI_n xs 3
def sp__law_bag (_ : Ad) : LSp := spBag
def sp__law_take (_ : Ad) : LSp := spTake
def sp__law_one (_ : Ad) : LSp := spOne
def sp__law_mixed (_ : Ad) : LSp := spMixed
def sp__law_alphabet (_ : Ad) : LSp := spAlpha
def sp__law_full (_ : Ad) : LSp := spFull
abbrev N__law_bag : List Str := ["_law_script", "_law_cell"]
def t__law_bag (ad : Ad) : LS :=
    lRet (lLst (lCons (lC (.int 0)) (lCons (lC (.int 1234567891)) (lCons (lC (.int 0)) (lCons (lLc (lIt (lSl (lVar 0) (lPart none) (lPart (some (lC (.int 63)))))) (.nm 1) (lYes) (lCB absE (lCons (lVar 1) (lNil))) [1]) (lNil))))))
abbrev N__law_take : List Str := ["_law_bag_here", "_law_many", "_law_cell", "_law_mixed_here", "_law_drawn", "_law_early", "_law_second"]
def t__law_take (ad : Ad) : LS :=
    lSeq (lIfS (lB (lOp (eqE false) (lOp ixA (lVar 0) (lC (.int 0))) (lC (.int 0))))
      (lSeq (lSet (lOp ixA (lOp addE (lSl (lOp ixA (lVar 0) (lC (.int 3))) (lPart (some (lOp ixA (lVar 0) (lC (.int 2))))) (lPart none)) (lLst (lCons (lC (.int 0)) (lNil)))) (lC (.int 0))) 2) <|
    lSeq (lAugS (fun i j => i + j) (lVar 0) (lC (.int 2)) (lC (.int 1))) <|
    lSeq (lSetA (lVar 0) (lC (.int 0)) (lOp mulE (lVar 2) (lCB intOf (lCons (lOp geE (lVar 2) (lOp powE (lC (.int 10)) (lC (.int 18)))) (lNil))))) <|
    lSeq (lSet (lOp addE (lOp addE (lOp mulE (lOp ixA (lVar 0) (lC (.int 1))) (lC (.int 48271))) (lOp modE (lCB intOf (lCons (lVar 2) (lNil))) (lC (.int 2147483647)))) (lOp mulE (lC (.int 7919)) (lOp ixA (lVar 0) (lC (.int 2))))) 3) <|
    lSetA (lVar 0) (lC (.int 1)) (lOp modE (lCB intOf (lCons (lVar 3) (lNil))) (lC (.int 2147483647))))
      (lNext)) <|
    lSeq (lIfS (lB (lOp gtE (lOp ixA (lVar 0) (lC (.int 0))) (lC (.int 0))))
      (lSeq (lSet (lOp modE (lCB intOf (lCons (lOp ixA (lVar 0) (lC (.int 0))) (lNil))) (lVar 1)) 4) <|
    lSeq (lSetA (lVar 0) (lC (.int 0)) (lOp fdivE (lCB intOf (lCons (lOp ixA (lVar 0) (lC (.int 0))) (lNil))) (lVar 1))) <|
    lRet (lVar 4))
      (lNext)) <|
    lSeq (lSet (lOp modE (lCB intOf (lCons (lOp mulE (lOp addE (lOp ixA (lVar 0) (lC (.int 1))) (lC (.int 1))) (lC (.int 39373))) (lNil))) (lC (.int 1000000007))) 5) <|
    lSeq (lSet (lOp modE (lCB intOf (lCons (lOp mulE (lOp modE (lCB intOf (lCons (lOp mulE (lVar 5) (lVar 5)) (lNil))) (lC (.int 998244353))) (lC (.int 30011))) (lNil))) (lC (.int 998244353))) 6) <|
    lRet (lOp modE (lCB intOf (lCons (lOp fdivE (lVar 6) (lC (.int 7))) (lNil))) (lVar 1))
abbrev N__law_one : List Str := ["_law_bag_here", "_law_some"]
def t__law_one (ad : Ad) : LS :=
    lRet (lOp ixA (lVar 1) (lCall (sp__law_take ad) (lCons (lVar 0) (lCons (lCB lenE (lCons (lVar 1) (lNil))) (lNil)))))
abbrev N__law_mixed : List Str := ["_law_bag_here", "_law_things", "_law_found", "_law_thing"]
def t__law_mixed (ad : Ad) : LS :=
    lSeq (lSet (lLst (lNil)) 2) <|
    lSeq (lFor (lIt (lVar 1)) (.nm 3)
      (lDrop (lBM "list" insertE (lVar 2) (lCons (lCall (sp__law_take ad) (lCons (lVar 0) (lCons (lOp addE (lCB lenE (lCons (lVar 2) (lNil))) (lC (.int 1))) (lNil)))) (lCons (lVar 3) (lNil)))))) <|
    lRet (lVar 2)
abbrev N__law_alphabet : List Str := ["_law_bag_here"]
def t__law_alphabet (ad : Ad) : LS :=
    lRet (lSl (lCall (sp__law_mixed ad) (lCons (lVar 0) (lCons (lLst (lCons (lC (.int 0)) (lCons (lC (.int 1)) (lCons (lC (.int 2)) (lCons (lC (.int 3)) (lCons (lC (.int 48)) (lCons (lC (.int 999999999)) (lCons (lOp powE (lC (.int 10)) (lC (.int 9))) (lNil))))))))) (lNil)))) (lPart none) (lPart (some (lCall (sp__law_one ad) (lCons (lVar 0) (lCons (lLst (lCons (lC (.int 2)) (lCons (lC (.int 3)) (lCons (lC (.int 2)) (lCons (lC (.int 1)) (lCons (lC (.int 4)) (lNil))))))) (lNil)))))))
abbrev N__law_full : List Str := ["_law_bag_here", "_law_letters", "_law_size", "_law_k"]
def t__law_full (ad : Ad) : LS :=
    lRet (lCB tupleOf (lCons (lLc (lRng1 (lCons (lVar 2) (lNil))) (.nm 3) (lYes) (lCall (sp__law_one ad) (lCons (lVar 0) (lCons (lVar 1) (lNil)))) [3]) (lNil)))
theorem pure__law_bag (ad : Ad) (evs : List EV) (h : EH) (Q : EK) (q : sp__law_bag ad evs h Q) : t__law_bag ad (endsOf Q) (startE N__law_bag evs) h := pureBag evs h Q q
theorem pure__law_take (ad : Ad) (evs : List EV) (h : EH) (Q : EK) (q : sp__law_take ad evs h Q) : t__law_take ad (endsOf Q) (startE N__law_take evs) h := pureTake evs h Q q
theorem pure__law_one (ad : Ad) (evs : List EV) (h : EH) (Q : EK) (q : sp__law_one ad evs h Q) : t__law_one ad (endsOf Q) (startE N__law_one evs) h := pureOne evs h Q q
theorem pure__law_mixed (ad : Ad) (evs : List EV) (h : EH) (Q : EK) (q : sp__law_mixed ad evs h Q) : t__law_mixed ad (endsOf Q) (startE N__law_mixed evs) h := pureMixed evs h Q q
theorem pure__law_alphabet (ad : Ad) (evs : List EV) (h : EH) (Q : EK) (q : sp__law_alphabet ad evs h Q) : t__law_alphabet ad (endsOf Q) (startE N__law_alphabet evs) h := pureAlpha evs h Q q
theorem pure__law_full (ad : Ad) (evs : List EV) (h : EH) (Q : EK) (q : sp__law_full ad evs h Q) : t__law_full ad (endsOf Q) (startE N__law_full evs) h := pureFull evs h Q q
theorem len__law_bag (ad : Ad) (evs : List EV) (h : EH) (Q : EK) (q : sp__law_bag ad evs h Q) : evs.length = ["_law_script"].length := lenBag evs h Q q
theorem len__law_take (ad : Ad) (evs : List EV) (h : EH) (Q : EK) (q : sp__law_take ad evs h Q) : evs.length = ["_law_bag_here", "_law_many"].length := lenTake evs h Q q
theorem len__law_one (ad : Ad) (evs : List EV) (h : EH) (Q : EK) (q : sp__law_one ad evs h Q) : evs.length = ["_law_bag_here", "_law_some"].length := lenOne evs h Q q
theorem len__law_mixed (ad : Ad) (evs : List EV) (h : EH) (Q : EK) (q : sp__law_mixed ad evs h Q) : evs.length = ["_law_bag_here", "_law_things"].length := lenMixed evs h Q q
theorem len__law_alphabet (ad : Ad) (evs : List EV) (h : EH) (Q : EK) (q : sp__law_alphabet ad evs h Q) : evs.length = ["_law_bag_here"].length := by obtain ⟨_, rfl, _⟩ := q; rfl
theorem len__law_full (ad : Ad) (evs : List EV) (h : EH) (Q : EK) (q : sp__law_full ad evs h Q) : evs.length = ["_law_bag_here", "_law_letters", "_law_size"].length := by obtain ⟨_, _, _, _, rfl, _⟩ := q; rfl
end Y

namespace Y
def omin : Option Int → Option Int → Option Int
  | none, b => b
  | a, none => a
  | some a, some b => some (min a b)
def oadd (a : Option Int) (k : Int) : Option Int := a.map (· + k)
structure GridOf where
  same : Nat → Nat → Bool
  drop : Nat → Int
  put : Nat → Int
  lag : Nat → Nat → Bool
def GridOf.best (g : GridOf) : Nat → Nat → Option Int
  | 0, 0 => some 0
  | i + 1, 0 => if g.lag (i + 1) 0 = true then oadd (g.best i 0) (g.drop i) else none
  | 0, j + 1 => if g.lag 0 (j + 1) = true then oadd (g.best 0 j) (g.put j) else none
  | i + 1, j + 1 => if g.lag (i + 1) (j + 1) = true then omin (if g.same i j = true then g.best i j else none) (omin (oadd (g.best i (j + 1)) (g.drop i)) (oadd (g.best (i + 1) j) (g.put j))) else none
  termination_by i j => i + j
def GridOf.part (g : GridOf) (done : Nat → Nat → Bool) : Nat → Nat → Option Int
  | 0, 0 => some 0
  | i + 1, 0 => if g.lag (i + 1) 0 = true then (if done i 0 = true then oadd (g.best i 0) (g.drop i) else none) else none
  | 0, j + 1 => if g.lag 0 (j + 1) = true then (if done 0 j = true then oadd (g.best 0 j) (g.put j) else none) else none
  | i + 1, j + 1 => if g.lag (i + 1) (j + 1) = true then omin (if (g.same i j && done i j) = true then g.best i j else none)
      (omin (if done i (j + 1) = true then oadd (g.best i (j + 1)) (g.drop i) else none) (if done (i + 1) j = true then oadd (g.best (i + 1) j) (g.put j) else none)) else none
def mark (done : Nat → Nat → Bool) (a b : Nat) : Nat → Nat → Bool := fun i j => done i j || (decide (i = a) && decide (j = b))
def ptsL (n m : Nat) : List (Nat × Nat) := (List.range (n + 1)).flatMap fun i => (List.range (m + 1)).map fun j => (i, j)
theorem ptsL_mem {n m : Nat} {p : Nat × Nat} : p ∈ ptsL n m ↔ p.1 ≤ n ∧ p.2 ≤ m := by
  unfold ptsL
  rw [List.mem_flatMap]
  constructor
  · rintro ⟨i, hi, hp⟩
    obtain ⟨j, hj, rfl⟩ := List.mem_map.mp hp
    simp at hi hj
    exact ⟨by show i ≤ n; omega, by show j ≤ m; omega⟩
  · intro h
    exact ⟨p.1, by simp; omega, List.mem_map.mpr ⟨p.2, by simp; omega, rfl⟩⟩
end Y

namespace Y
open PySem PySem.Spec PyProof.Rows L2

abbrev tx (xs : List Int) : EV := .tup (xs.map EV.int)
def ptE (i j : Nat) : EV := .tup [.int i, .int j]
def pairE (p : Int × Int) : EV := .tup [.int p.1, .int p.2]
inductive Prom where
  | none | total (g : Int) | lag (g : Int)
def Prom.e : Prom → EV
  | .none => .tup [.str [110, 111, 110, 101]]
  | .total g => .tup [.str [116, 111, 116, 97, 108], .int g]
  | .lag g => .tup [.str [108, 97, 103], .int g]
def Prom.ok : Prom → Nat → Nat → Bool
  | .lag g, i, j => decide ((((i : Int) - j).natAbs : Int) ≤ g)
  | _, _, _ => true
abbrev Tab := List (Int × (Int × Int))
def tabKV (l : Tab) : List (EV × EV) := l.map fun q => (.int q.1, pairE q.2)
def cost (l : Tab) (x : Int) : Int × Int := (l.lookup x).getD (1, 1)
def PrAt (ad : Ad) (h : EH) (r : Nat) (l : Tab) : Prop := ∃ d, h[r]? = some (.slo ad.a_Prices [some (.ref d)]) ∧ h[d]? = some (.dic (tabKV l))
def mvI (i c : Nat) : Nat := if c = 112 then i else i + 1
def mvJ (j c : Nat) : Nat := if c = 100 then j else j + 1
def isStep (c : Nat) : Prop := c = 107 ∨ c = 100 ∨ c = 112
def canDo (l r : List Int) (c i j : Nat) : Bool := if c = 112 then decide (j < r.length) else if c = 100 then decide (i < l.length) else decide (i < l.length) && decide (j < r.length) && decide (l.getD i 0 = r.getD j 0)
def stepCost (f : Int → Int × Int) (l r : List Int) (c i j : Nat) : Int := if c = 107 then 0 else if c = 100 then (f (l.getD i 0)).1 else (f (r.getD j 0)).2
structure Wd where
  l : List Int
  r : List Int
  c : Tab
  p : Prom
def Wd.stp (w : Wd) (i j : Nat) : List Nat := [107, 100, 112].filter fun c => canDo w.l w.r c i j && w.p.ok (mvI i c) (mvJ j c)
theorem tx_at {l : List Int} {i : Nat} (hi : i < l.length) : atI (l.map EV.int) (i : Int) = some (.int (l.getD i 0)) := by
  refine L2.atI_nat ?_
  rw [List.getElem?_map, List.getElem?_eq_getElem hi, List.getD_eq_getElem?_getD, List.getElem?_eq_getElem hi]; rfl
theorem PrAt.keep {ad : Ad} {h h' : EH} {r : Nat} {l : Tab} (p : PrAt ad h r l) (k : Keep no1 h h') : PrAt ad h' r l := by
  obtain ⟨d, a, b⟩ := p
  exact ⟨d, k.at a, k.at b⟩
end Y

namespace Y
open PySem PySem.Spec PyProof.Rows L2

theorem app_f {h : EH} {r : Nat} {xs : List EV} {v : EV} {P : EK} (e : h[r]? = some (.lst xs)) (hl : xs.length < sizeLine) (p : P .non (h.set r (.lst (xs ++ [v])))) : appendE (.ref r) [v] h P := by
  unfold appendE onList; simp only [e]; exact ⟨hl, p⟩
theorem isTy_l {h : EH} {r : Nat} {xs : List EV} (e : h[r]? = some (.lst xs)) : isTy "list" (.ref r) h := by
  unfold isTy; simp only [e]
structure TabOk (l : Tab) : Prop where
  nd : (l.map (·.1)).Nodup
  rg : ∀ q ∈ l, (0 ≤ q.1 ∧ q.1 ≤ 1000000000) ∧ (1 ≤ q.2.1 ∧ q.2.1 ≤ 9) ∧ (1 ≤ q.2.2 ∧ q.2.2 ≤ 9)
end Y

namespace Y
open PySem PySem.Spec PyProof.Rows L2

def isInt : EV → Bool
  | .int _ => true
  | _ => false
def TabRg (l : Tab) : Prop := ∀ q ∈ l, (0 ≤ q.1 ∧ q.1 ≤ 1000000000) ∧ (1 ≤ q.2.1 ∧ q.2.1 ≤ 9) ∧ (1 ≤ q.2.2 ∧ q.2.2 ≤ 9)
end Y

namespace Y
open PySem PySem.Spec PyProof.Rows L2

def optE : Option Int → EV
  | none => .non
  | some i => .int i
abbrev Tbl := Nat → Nat → Option Int
def rowE (m : Nat) (f : Nat → Option Int) : List EV := (List.range (m + 1)).map fun j => optE (f j)
theorem rowE_at {m j : Nat} {f : Nat → Option Int} (h : j ≤ m) : (rowE m f)[j]? = some (optE (f j)) := by
  unfold rowE
  rw [List.getElem?_map, List.getElem?_range (by omega)]; rfl
theorem rowE_len (m : Nat) (f : Nat → Option Int) : (rowE m f).length = m + 1 := by simp [rowE]
def RowsAt (h : EH) (b t r n m : Nat) (R : Tbl) : Prop := ∃ rs : List Nat, h[r]? = some (.lst (rs.map EV.ref)) ∧ rs.length = n + 1 ∧ rs.Nodup ∧ r ∉ rs ∧ (b ≤ r ∧ r < t) ∧ (∀ q ∈ rs, b ≤ q ∧ q < t) ∧ ∀ (i q : Nat), rs[i]? = some q → h[q]? = some (.lst (rowE m (R i)))
def upd (R : Tbl) (i j : Nat) (v : Option Int) : Tbl := fun a b => if a = i ∧ b = j then v else R a b
theorem RowsAt.row {h : EH} {b t r n m : Nat} {R : Tbl} (z : RowsAt h b t r n m R) {i : Nat} (hi : i ≤ n) : ∃ q xs, h[r]? = some (.lst xs) ∧ xs[i]? = some (.ref q) ∧ xs.length = n + 1 ∧ (b ≤ q ∧ q < t) ∧ q ≠ r ∧ h[q]? = some (.lst (rowE m (R i))) := by
  obtain ⟨rs, e, l, nd, nr, br, bq, z⟩ := z
  have hl : i < rs.length := by omega
  have e1 : rs[i]? = some rs[i] := List.getElem?_eq_getElem hl
  have hm := List.getElem_mem hl
  exact ⟨rs[i], _, e, by rw [List.getElem?_map, e1]; rfl, by simpa using l, bq _ hm, fun z => nr (by rw [← z]; exact hm), z _ _ e1⟩
theorem RowsAt.lt {h : EH} {b t r n m : Nat} {R : Tbl} (z : RowsAt h b t r n m R) : b ≤ r ∧ r < t := z.choose_spec.2.2.2.2.1
theorem rowE_set {m i j : Nat} {R : Tbl} {v : Option Int} (hj : j ≤ m) : (rowE m (R i)).set j (optE v) = rowE m (upd R i j v i) := by
  refine List.ext_getElem? fun k => ?_
  rw [List.getElem?_set]
  by_cases e : j = k
  · subst e
    have e2 := rowE_at (f := upd R i j v i) hj
    rw [if_pos rfl, rowE_len, if_pos (by omega), e2]
    unfold upd
    rw [if_pos ⟨rfl, rfl⟩]
  · rw [if_neg e]
    unfold rowE
    rw [List.getElem?_map, List.getElem?_map]
    by_cases hk : k < m + 1
    · rw [List.getElem?_range hk]
      exact congrArg (fun z => some (optE z)) (if_neg fun z => e z.2.symm).symm
    · rw [List.getElem?_eq_none (by simp; omega)]; rfl
theorem RowsAt.set {h : EH} {b t r n m i j q : Nat} {R : Tbl} {v : Option Int} {xs : List EV} (z : RowsAt h b t r n m R) (e : h[r]? = some (.lst xs)) (a : xs[i]? = some (.ref q)) (hj : j ≤ m) :
    RowsAt (h.set q (.lst ((rowE m (R i)).set j (optE v)))) b t r n m (upd R i j v) := by
  obtain ⟨rs, e', l, nd, nr, br, bq, z⟩ := z
  rw [e'] at e
  cases e
  rw [List.getElem?_map] at a
  obtain ⟨q', e1, e2⟩ := Option.map_eq_some_iff.mp a
  cases e2
  have hm := List.mem_of_getElem? e1
  have z1 := z _ _ e1
  refine ⟨rs, set_off e' (fun y => nr (by rw [y]; exact hm)), l, nd, nr, br, bq, fun k q2 hk => ?_⟩
  by_cases ek : k = i
  · subst ek
    rw [e1] at hk
    cases hk
    rw [set_at z1, rowE_set hj]
  · have ne : q2 ≠ q := by
      rintro rfl
      obtain ⟨l1, h1⟩ := List.getElem?_eq_some_iff.mp hk
      obtain ⟨l2, h2⟩ := List.getElem?_eq_some_iff.mp e1
      exact ek ((List.getElem_inj nd).mp (h1.trans h2.symm))
    rw [set_off (z _ _ hk) ne]
    refine congrArg (fun f => some (EO.lst (rowE m f))) (funext fun x => ?_)
    simp [upd, ek]
theorem RowsAt.keep {h h' : EH} {b t r n m : Nat} {R : Tbl} (z : RowsAt h b t r n m R) (k : Keep no1 h h') : RowsAt h' b t r n m R := by
  obtain ⟨rs, e, l, nd, nr, br, bq, z⟩ := z
  exact ⟨rs, k.at e, l, nd, nr, br, bq, fun i q hq => k.at (z i q hq)⟩
theorem RowsAt.more {h : EH} {b t t' r n m : Nat} {R : Tbl} (z : RowsAt h b t r n m R) (l : t ≤ t') : RowsAt h b t' r n m R := by
  obtain ⟨rs, e, l', nd, nr, br, bq, z⟩ := z
  exact ⟨rs, e, l', nd, nr, ⟨br.1, by omega⟩, fun q hq => ⟨(bq q hq).1, Nat.lt_of_lt_of_le (bq q hq).2 l⟩, z⟩
theorem atI_last' {α : Type} {xs : List α} {n : Nat} (l : xs.length = n + 1) : atI xs (n : Int) = atI xs (-1) := by
  unfold atI ixN
  rw [if_pos (by omega), if_pos (by omega), if_neg (by omega), if_pos (by omega)]
  have e : ((-1 : Int) + ((xs.length : Nat) : Int)).toNat = n := by omega
  have e2 : (n : Int).toNat = n := by omega
  simp only [e2]
  first | rw [e] | (congr 1; omega)
theorem RowsAt.congr {h : EH} {b t r n m : Nat} {R R' : Tbl} (z : RowsAt h b t r n m R) (e : ∀ i j, i ≤ n → j ≤ m → R i j = R' i j) : RowsAt h b t r n m R' := by
  obtain ⟨rs, e', l, nd, nr, br, bq, z⟩ := z
  refine ⟨rs, e', l, nd, nr, br, bq, fun i q hq => ?_⟩
  rw [z i q hq]
  have hi := (List.getElem?_eq_some_iff.mp hq).1
  unfold rowE
  refine congrArg (fun l => some (EO.lst l)) (List.map_congr_left fun j hj => ?_)
  simp at hj
  rw [e i j (by omega) (by omega)]
def Wd.g (w : Wd) : GridOf where
  same i j := decide (w.l.getD i 0 = w.r.getD j 0)
  drop i := (cost w.c (w.l.getD i 0)).1
  put j := (cost w.c (w.r.getD j 0)).2
  lag := w.p.ok
abbrev Wd.n (w : Wd) : Nat := w.l.length
abbrev Wd.m (w : Wd) : Nat := w.r.length
theorem Wd.stp_le (w : Wd) {i j c : Nat} (hc : c ∈ w.stp i j) (hi : i ≤ w.l.length) (hj : j ≤ w.r.length) : mvI i c ≤ w.l.length ∧ mvJ j c ≤ w.r.length := by
  unfold Wd.stp at hc
  simp only [List.mem_filter, List.mem_cons, List.not_mem_nil, or_false, Bool.and_eq_true] at hc
  obtain ⟨rfl | rfl | rfl, hd, _⟩ := hc <;> simp [canDo] at hd <;> simp [mvI, mvJ] <;> omega
end Y

namespace Y
open PySem PySem.Spec PyProof.Rows L2

def GridOf.cell (g : GridOf) (i j : Nat) : List (Option Int) :=
  (if i = 0 ∧ j = 0 then [some 0] else []) ++ (if 0 < i ∧ 0 < j ∧ g.same (i - 1) (j - 1) = true then [g.best (i - 1) (j - 1)] else []) ++
  (if 0 < i ∧ g.best (i - 1) j ≠ none then [oadd (g.best (i - 1) j) (g.drop (i - 1))] else []) ++ (if 0 < j ∧ g.best i (j - 1) ≠ none then [oadd (g.best i (j - 1)) (g.put (j - 1))] else [])
def PromNN : Prom → Prop
  | .lag g => 0 ≤ g
  | _ => True
end Y

namespace Y
open PySem PySem.Spec PyProof.Rows L2

structure GridOf.Small (g : GridOf) : Prop where
  d : ∀ i, 1 ≤ g.drop i ∧ g.drop i ≤ 9
  p : ∀ j, 1 ≤ g.put j ∧ g.put j ≤ 9
theorem cost_rg {t : Tab} (rg : TabRg t) (x : Int) : (1 ≤ (cost t x).1 ∧ (cost t x).1 ≤ 9) ∧ (1 ≤ (cost t x).2 ∧ (cost t x).2 ≤ 9) := by
  unfold cost
  cases e : t.lookup x with
  | none => exact ⟨⟨by decide, by decide⟩, ⟨by decide, by decide⟩⟩
  | some c => 
    obtain ⟨l1, l2, rfl, _⟩ := List.lookup_eq_some_iff.mp e
    exact (rg (x, c) (by simp)).2
theorem Wd.small {w : Wd} (rg : TabRg w.c) : w.g.Small := ⟨fun i => (cost_rg rg _).1, fun j => (cost_rg rg _).2⟩
def optD : Option Int → PyData
  | none => .none
  | some i => .int i
def rowD (m : Nat) (f : Nat → Option Int) : PyData := .list ((List.range (m + 1)).map fun j => optD (f j))
def tblD (n m : Nat) (R : Tbl) : PyData := .list ((List.range (n + 1)).map fun i => rowD m (R i))
def OSm (o : Option Int) : Prop := ∀ v, o = some v → v.natAbs < 10 ^ 12
theorem optE_ds {h : EH} {n : Nat} {o : Option Int} (s : OSm o) : DS h n 41 (optE o) (optD o) := by
  cases o with
  | none => exact .non
  | some v => exact .int (s v rfl) (Nat.le_refl _)
theorem ds_map {α : Type} {h : EH} {n k : Nat} {f : α → EV} {d : α → PyData} : ∀ (l : List α), (∀ x ∈ l, DS h n k (f x) (d x)) → DSs h n (l.length * (k + 1)) (l.map f) (l.map d)
  | [], _ => by simpa using DSs.nil
  | x :: l, hs => by
    have := DSs.cons (hs x (by simp)) (ds_map l fun y hy => hs y (List.mem_cons_of_mem _ hy))
    refine this.more ?_
    rw [List.length_cons, Nat.add_mul]; omega
theorem row_ds {h : EH} {q m n : Nat} {f : Nat → Option Int} (e : h[q]? = some (.lst (rowE m f))) (s : ∀ j, j ≤ m → OSm (f j)) : DS h (n + 1) ((m + 1) * 42) (.ref q) (rowD m f) := by
  refine DS.lst e ?_
  have := ds_map (h := h) (n := n) (k := 41) (f := fun j => optE (f j)) (d := fun j => optD (f j)) (List.range (m + 1)) fun j hj => optE_ds (s j (by simp at hj; omega))
  rw [List.length_range] at this
  exact this
theorem RowsAt.ds {h : EH} {b t r n m k : Nat} {R : Tbl} (z : RowsAt h b t r n m R) (s : ∀ i j, i ≤ n → j ≤ m → OSm (R i j)) : DS h (k + 2) ((n + 1) * ((m + 1) * 42 + 1)) (.ref r) (tblD n m R) := by
  obtain ⟨rs, e, l, nd, nr, br, bq, z⟩ := z
  refine DS.lst e ?_
  have e1 : rs = (List.range (n + 1)).map fun i => rs.getD i 0 := by
    refine List.ext_getElem? fun i => ?_
    rw [List.getElem?_map]
    by_cases hi : i < rs.length
    · rw [List.getElem?_range (by omega), List.getElem?_eq_getElem hi]
      simp [List.getD_eq_getElem?_getD, List.getElem?_eq_getElem hi]
    · rw [List.getElem?_eq_none (by omega), List.getElem?_eq_none (by simp; omega)]; rfl
  have := ds_map (h := h) (n := k + 1) (k := (m + 1) * 42) (f := fun i => EV.ref (rs.getD i 0)) (d := fun i => rowD m (R i)) (List.range (n + 1)) fun i hi => by
    simp at hi
    have hl : i < rs.length := by omega
    refine row_ds (z i _ ?_) fun j hj => s i j (by omega) hj
    rw [List.getD_eq_getElem?_getD, List.getElem?_eq_getElem hl]; rfl
  rw [List.length_range] at this
  rw [e1, List.map_map]
  exact this
end Y

namespace Y
open PySem PySem.Spec PyProof.Rows L2
def GridOf.rest (g : GridOf) (n m i j : Nat) : Option Int :=
  if g.lag i j = true then
    omin (if i = n ∧ j = m then some 0 else none)
      (omin (if _h : i < n ∧ j < m then (if g.same i j = true then g.rest n m (i + 1) (j + 1) else none) else none)
        (omin (if _h : i < n then oadd (g.rest n m (i + 1) j) (g.drop i) else none) (if _h : j < m then oadd (g.rest n m i (j + 1)) (g.put j) else none)))
  else none
  termination_by (n - i) + (m - j)
abbrev Wd.rest (w : Wd) : Tbl := w.g.rest w.n w.m
def Wd.cs (w : Wd) (i j c : Nat) : Int := stepCost (cost w.c) w.l w.r c i j
end Y

namespace Y
open PySem PySem.Spec PyProof.Rows L2

def Wd.tight (w : Wd) (i j : Nat) : List Nat := (w.stp i j).filter fun c => decide (w.rest (mvI i c) (mvJ j c) ≠ none) && decide (oadd (w.rest (mvI i c) (mvJ j c)) (w.cs i j c) = w.rest i j)
end Y

namespace Y
open PySem PySem.Spec PyProof.Rows L2

def Wd.fst (w : Wd) : Nat → Nat → Nat → List Nat
  | 0, _, _ => []
  | k + 1, i, j => if i = w.n ∧ j = w.m then [] else match w.tight i j with
    | [] => []
    | c :: _ => c :: Wd.fst w k (mvI i c) (mvJ j c)
def Wd.first (w : Wd) : List Nat := w.fst (w.n + w.m) 0 0
end Y

namespace Y
open PySem PySem.Spec PyProof.Rows L2

abbrev StepC (s : List Nat) : Prop := ∀ c ∈ s, isStep c
def pts (i j : Nat) : List Nat → List (Nat × Nat)
  | [] => [(i, j)]
  | c :: cs => (i, j) :: pts (mvI i c) (mvJ j c) cs
def offs (s : List Nat) : List Int := (pts 0 0 s).map fun q => (((q.1 : Int) - q.2).natAbs : Int)
def maxL : List Int → Int
  | [] => 0
  | [a] => a
  | a :: b :: l => max a (maxL (b :: l))
def wide (s : List Nat) : Int := maxL (offs s)
def Prom.kept (p : Prom) (s : List Nat) : Bool := match p with
  | .lag g => decide (wide s ≤ g)
  | _ => true
def wrg (l r : List Int) : List Nat → Nat → Nat → Nat → Option Nat
  | [], i, j, k => if i = l.length ∧ j = r.length then none else some k
  | c :: cs, i, j, k => if canDo l r c i j = true then wrg l r cs (mvI i c) (mvJ j c) (k + 1) else some k
def priceS (f : Int → Int × Int) (l r : List Int) : List Nat → Nat → Nat → Int
  | [], _, _ => 0
  | c :: cs, i, j => stepCost f l r c i j + priceS f l r cs (mvI i c) (mvJ j c)
def endS : List Nat → Nat → Nat → Nat × Nat
  | [], i, j => (i, j)
  | c :: cs, i, j => endS cs (mvI i c) (mvJ j c)
theorem endS_app : ∀ (a b : List Nat) (i j : Nat), endS (a ++ b) i j = endS b (endS a i j).1 (endS a i j).2
  | [], b, i, j => rfl
  | c :: a, b, i, j => by rw [List.cons_append, endS, endS_app a b, endS]
end Y

namespace Y
open PySem PySem.Spec PyProof.Rows L2

theorem tyE_keep {h h' : EH} {v : EV} {t : String} (k : Keep no1 h h') (e : tyE v h = some t) : tyE v h' = some t := by
  cases v <;> simp [tyE] at e ⊢ <;> try exact e
  rename_i r
  split at e <;> first
    | (rename_i e1; rw [k.at e1]; exact e)
    | cases e
def isLst (v : EV) (h : EH) : Option (List EV) := match v with
  | .ref r => match h[r]? with
    | some (.lst xs) => some xs
    | _ => none
  | _ => none
theorem isLst_some {v : EV} {h : EH} {xs : List EV} (e : isLst v h = some xs) : ∃ r, v = .ref r ∧ h[r]? = some (.lst xs) := by
  unfold isLst at e
  split at e
  · split at e
    · rename_i e1; cases e; exact ⟨_, rfl, e1⟩
    · cases e
  · cases e
theorem isLst_keep {h h' : EH} {v : EV} {t : String} (k : Keep no1 h h') (e : tyE v h = some t) : isLst v h' = isLst v h := by
  cases v <;> simp [tyE] at e <;> try rfl
  rename_i r
  unfold isLst
  split at e <;> first
    | (rename_i e1; simp only [e1, k.at e1])
    | cases e
def rowsOf (h : EH) (m : Nat) : List EV → Option (List (List EV))
  | [] => some []
  | x :: xs => match isLst x h with
    | some es => if es.length = m + 1 then (rowsOf h m xs).map (es :: ·) else none
    | none => none
def tblOf (h : EH) (v : EV) (n m : Nat) : Option (List (List EV)) := match isLst v h with
  | some rows => if rows.length = n + 1 then rowsOf h m rows else none
  | none => none
def entAt (es : List (List EV)) (i j : Nat) : EV := (es.getD i []).getD j .non
def toT (es : List (List EV)) : Tbl := fun i j => match entAt es i j with
  | .int v => some v
  | _ => none
def isNon : EV → Bool
  | .non => true
  | _ => false
def entOk (p : Prom) (i j : Nat) (v : EV) : Bool := if p.ok i j = true then isInt v else isNon v
def tableB (p : Prom) (n m : Nat) (es : List (List EV)) : Bool := (ptsL n m).all fun q => entOk p q.1 q.2 (entAt es q.1 q.2)
def Wd.stB (w : Wd) (R : Tbl) (i j : Nat) (v : Int) (c : Nat) : Bool := match R (mvI i c) (mvJ j c) with
  | some u => decide (u ≤ v + w.cs i j c)
  | none => true
def Wd.ptB (w : Wd) (R : Tbl) (q : Nat × Nat) : Bool := match R q.1 q.2 with
  | none => true
  | some v => (w.stp q.1 q.2).all (w.stB R q.1 q.2 v)
def Wd.boundB (w : Wd) (R : Tbl) : Bool := decide (R 0 0 = some 0) && (ptsL w.n w.m).all (w.ptB R)
def Wd.boundV (w : Wd) (h : EH) (v : EV) : Bool := match tblOf h v w.n w.m with
  | some es => tableB w.p w.n w.m es && w.boundB (toT es)
  | none => false
structure TyOk (h : EH) (v : EV) (n m : Nat) : Prop where
  a : (tyE v h).isSome = true
  b : ∀ rows, isLst v h = some rows → rows.length = n + 1 → ∀ x ∈ rows, (tyE x h).isSome = true
  c : ∀ es, tblOf h v n m = some es → ∀ r ∈ es, ∀ x ∈ r, (tyE x h).isSome = true
theorem rowsOf_keep {h h' : EH} {m : Nat} (k : Keep no1 h h') : ∀ {rows : List EV}, (∀ x ∈ rows, (tyE x h).isSome = true) → rowsOf h' m rows = rowsOf h m rows
  | [], _ => rfl
  | x :: xs, t => by
    obtain ⟨tx, ht⟩ := Option.isSome_iff_exists.mp (t x (by simp))
    rw [rowsOf, rowsOf, isLst_keep k ht, rowsOf_keep k fun y hy => t y (List.mem_cons_of_mem _ hy)]
theorem TyOk.tbl {h h' : EH} {v : EV} {n m : Nat} (t : TyOk h v n m) (k : Keep no1 h h') : tblOf h' v n m = tblOf h v n m := by
  obtain ⟨tv, ht⟩ := Option.isSome_iff_exists.mp t.a
  unfold tblOf
  rw [isLst_keep k ht]
  split
  · rename_i rows e
    split
    · rename_i hl
      exact rowsOf_keep k (t.b rows e hl)
    · rfl
  · rfl
theorem TyOk.keep {h h' : EH} {v : EV} {n m : Nat} (t : TyOk h v n m) (k : Keep no1 h h') : TyOk h' v n m := by
  have ks : ∀ {x : EV}, (tyE x h).isSome = true → (tyE x h').isSome = true := fun {x} e => by
    obtain ⟨tx, ht⟩ := Option.isSome_iff_exists.mp e
    rw [tyE_keep k ht]; rfl
  obtain ⟨tv, ht⟩ := Option.isSome_iff_exists.mp t.a
  refine ⟨ks t.a, fun rows e hl x hx => ?_, fun es e r hr x hx => ?_⟩
  · rw [isLst_keep k ht] at e
    exact ks (t.b rows e hl x hx)
  · rw [t.tbl k] at e
    exact ks (t.c es e r hr x hx)
end Y

namespace Y
open PySem PySem.Spec PyProof.Rows L2

end Y

namespace Y
open PySem PySem.Spec PyProof.Rows L2

def Wd.hT (w : Wd) : Tbl := fun i j => match w.rest 0 0, w.rest i j with
  | some a, some b => some (a - b)
  | _, _ => none
def isSt (c : Nat) : Bool := decide (c = 107) || decide (c = 100) || decide (c = 112)
theorem step_isSt {s : List Nat} (h : StepC s) : s.all isSt = true := by
  rw [List.all_eq_true]
  intro c hc
  rcases h c hc with rfl | rfl | rfl <;> rfl
def Wd.leastV (w : Wd) (h : EH) (sv v : EV) : Bool := match sv with
  | .str s => s.all isSt && (wrg w.l w.r s 0 0 0).isNone && w.p.kept s && w.boundV h v && (match tblOf h v w.n w.m with
    | some es => decide (toT es w.n w.m = some (priceS (cost w.c) w.l w.r s 0 0))
    | none => false)
  | _ => false
end Y

namespace Y
open PySem PySem.Spec PyProof.Rows L2

def Wd.cin (w : Wd) (p : Nat → Nat → Bool) (C : Nat → Nat → Nat) (i j : Nat) : Nat :=
  (if i = 0 ∧ j = 0 then 1 else 0) + (if 0 < i ∧ 0 < j ∧ p (i - 1) (j - 1) = true ∧ 107 ∈ w.tight (i - 1) (j - 1) then C (i - 1) (j - 1) else 0) +
  (if 0 < i ∧ p (i - 1) j = true ∧ 100 ∈ w.tight (i - 1) j then C (i - 1) j else 0) + (if 0 < j ∧ p i (j - 1) = true ∧ 112 ∈ w.tight i (j - 1) then C i (j - 1) else 0)
def Wd.cntF (w : Wd) : Nat → Nat → Nat → Nat
  | 0, _, _ => 0
  | k + 1, i, j => w.cin (fun _ _ => true) (Wd.cntF w k) i j
def Wd.cnt (w : Wd) (i j : Nat) : Nat := w.cntF (i + j + 1) i j
def Wd.many (w : Wd) : Nat := if w.rest 0 0 = none then 0 else w.cnt w.n w.m
def oc (n : Nat) : Option EV := if n = 0 then none else some (.int n)
theorem isKeyT_pt (i j : Nat) : isKeyT (ptE i j) := rfl
end Y

namespace Y
open PySem PySem.Spec PyProof.Rows L2

theorem Wd.stp_iff {w : Wd} {i j c : Nat} : c ∈ w.stp i j ↔ isStep c ∧ canDo w.l w.r c i j = true ∧ w.p.ok (mvI i c) (mvJ j c) = true := by
  unfold Wd.stp isStep
  rw [List.mem_filter]
  simp
structure Wd.Bnd (w : Wd) (R : Tbl) : Prop where
  z : R 0 0 = some 0
  s : ∀ (i j c : Nat) (u v : Int), i ≤ w.n → j ≤ w.m → c ∈ w.stp i j → R i j = some v → R (mvI i c) (mvJ j c) = some u → u ≤ v + w.cs i j c
  o : ∀ i j, i ≤ w.n → j ≤ w.m → (w.p.ok i j = true ↔ R i j ≠ none)
theorem Wd.Bnd.weak {w : Wd} {R : Tbl} (b : w.Bnd R) : ∀ (s : List Nat) (i j k : Nat) (v : Int), StepC s → wrg w.l w.r s i j k = none → (∀ q ∈ pts i j s, w.p.ok q.1 q.2 = true) → i ≤ w.n → j ≤ w.m → R i j = some v → ∃ u, R w.n w.m = some u ∧ u ≤ v + priceS (cost w.c) w.l w.r s i j
  | [], i, j, k, v, _, hw, _, hi, hj, hv => by
    rw [wrg] at hw
    split at hw
    · rename_i e
      obtain ⟨rfl, rfl⟩ := e
      exact ⟨v, hv, by simp [priceS]⟩
    · cases hw
  | c :: s, i, j, k, v, hs, hw, ho, hi, hj, hv => by
    rw [wrg] at hw
    split at hw
    · rename_i cd
      have ok : w.p.ok (mvI i c) (mvJ j c) = true := ho (mvI i c, mvJ j c) (by
        rw [pts]
        refine List.mem_cons_of_mem _ ?_
        cases s <;> simp [pts])
      have hc : c ∈ w.stp i j := Wd.stp_iff.mpr ⟨hs c (by simp), cd, ok⟩
      have le := w.stp_le hc hi hj
      obtain ⟨x, ex⟩ := Option.ne_none_iff_exists'.mp ((b.o _ _ le.1 le.2).mp ok)
      have l1 := b.s i j c x v hi hj hc hv ex
      obtain ⟨u, eu, lu⟩ := b.weak s (mvI i c) (mvJ j c) (k + 1) x (fun c hc => hs c (List.mem_cons_of_mem _ hc)) hw (fun q hq => ho q (by rw [pts]; exact List.mem_cons_of_mem _ hq)) le.1 le.2 ex
      refine ⟨u, eu, ?_⟩
      rw [priceS]
      have : w.cs i j c = stepCost (cost w.c) w.l w.r c i j := rfl
      omega
    · cases hw
end Y

namespace Y
open PySem PySem.Spec PyProof.Rows L2

theorem rowsOf_of {h : EH} {m : Nat} : ∀ (rs : List Nat) (F : Nat → List EV), (∀ (i q : Nat), rs[i]? = some q → h[q]? = some (EO.lst (F i))) → (∀ i, (F i).length = m + 1) → rowsOf h m (rs.map EV.ref) = some ((List.range rs.length).map F)
  | [], F, _, _ => rfl
  | q :: rs, F, z, l => by
    have e := z 0 q rfl
    have ih := rowsOf_of rs (fun i => F (i + 1)) (fun i x hx => z (i + 1) x (by simpa using hx)) (fun i => l _)
    rw [List.map_cons, rowsOf]
    have e1 : isLst (.ref q) h = some (F 0) := by simp only [isLst, e]
    rw [e1]
    dsimp only
    rw [if_pos (l 0), ih, List.length_cons, List.range_succ_eq_map]
    simp
abbrev rowsL (n m : Nat) (R : Tbl) : List (List EV) := (List.range (n + 1)).map fun i => rowE m (R i)
theorem RowsAt.tbl {h : EH} {b t r n m : Nat} {R : Tbl} (z : RowsAt h b t r n m R) : tblOf h (.ref r) n m = some (rowsL n m R) := by
  obtain ⟨rs, e, l, _, _, _, _, g⟩ := z
  have e1 : isLst (.ref r) h = some (rs.map EV.ref) := by simp only [isLst, e]
  unfold tblOf
  rw [e1]
  dsimp only
  rw [if_pos (by simpa using l), rowsOf_of rs (fun i => rowE m (R i)) g (fun i => rowE_len _ _), l]
theorem entAt_rows {n m i j : Nat} {R : Tbl} (hi : i ≤ n) (hj : j ≤ m) : entAt (rowsL n m R) i j = optE (R i j) := by
  unfold entAt
  have e1 : (rowsL n m R).getD i [] = rowE m (R i) := by
    rw [List.getD_eq_getElem?_getD, List.getElem?_map, List.getElem?_range (by omega)]; rfl
  rw [e1, List.getD_eq_getElem?_getD, rowE_at hj]; rfl
theorem toT_rows {n m i j : Nat} {R : Tbl} (hi : i ≤ n) (hj : j ≤ m) : toT (rowsL n m R) i j = R i j := by
  unfold toT
  rw [entAt_rows hi hj]
  cases R i j <;> rfl
theorem tyE_opt {h : EH} (o : Option Int) : (tyE (optE o) h).isSome = true := by cases o <;> simp [optE, tyE]
theorem RowsAt.ty {h : EH} {b t r n m : Nat} {R : Tbl} (z : RowsAt h b t r n m R) : TyOk h (.ref r) n m := by
  obtain ⟨rs, e, l, _, _, _, _, g⟩ := z
  have zt : tblOf h (.ref r) n m = some (rowsL n m R) := RowsAt.tbl (b := b) (t := t) ⟨rs, e, l, by assumption, by assumption, by assumption, by assumption, g⟩
  refine ⟨by simp [tyE, e], fun rows er hl x hx => ?_, fun es ee y hy x hx => ?_⟩
  · have e1 : isLst (.ref r) h = some (rs.map EV.ref) := by simp only [isLst, e]
    rw [e1] at er
    cases er
    obtain ⟨q, hq, rfl⟩ := List.mem_map.mp hx
    obtain ⟨i, hi⟩ := List.getElem?_of_mem hq
    simp [tyE, g i q hi]
  · rw [zt] at ee
    cases ee
    obtain ⟨i, _, rfl⟩ := List.mem_map.mp hy
    obtain ⟨j, _, rfl⟩ := List.mem_map.mp hx
    exact tyE_opt _
theorem RowsAt.bound {h : EH} {b t r : Nat} {w : Wd} {R : Tbl} (z : RowsAt h b t r w.n w.m R) (B : w.Bnd R) : w.boundV h (.ref r) = true := by
  unfold Wd.boundV
  rw [z.tbl]
  dsimp only
  rw [Bool.and_eq_true]
  constructor
  · unfold tableB
    rw [List.all_eq_true]
    rintro ⟨i, j⟩ hq
    have hq := ptsL_mem.mp hq
    dsimp only at hq ⊢
    rw [entAt_rows hq.1 hq.2]
    unfold entOk
    have o := B.o i j hq.1 hq.2
    by_cases h1 : w.p.ok i j = true
    · rw [if_pos h1]
      obtain ⟨v, e⟩ := Option.ne_none_iff_exists'.mp (o.mp h1)
      rw [e]; rfl
    · rw [if_neg h1]
      have : R i j = none := Decidable.byContradiction fun z => h1 (o.mpr z)
      rw [this]; rfl
  · unfold Wd.boundB
    rw [Bool.and_eq_true, decide_eq_true_eq, toT_rows (Nat.zero_le _) (Nat.zero_le _)]
    refine ⟨B.z, ?_⟩
    rw [List.all_eq_true]
    rintro ⟨i, j⟩ hq
    have hq := ptsL_mem.mp hq
    dsimp only at hq
    unfold Wd.ptB
    dsimp only
    rw [toT_rows hq.1 hq.2]
    cases e : R i j with
    | none => rfl
    | some v =>
      dsimp only
      rw [List.all_eq_true]
      intro c hc
      have le := w.stp_le hc hq.1 hq.2
      unfold Wd.stB
      rw [toT_rows le.1 le.2]
      cases e2 : R (mvI i c) (mvJ j c) with
      | none => rfl
      | some u => exact decide_eq_true (B.s i j c u v hq.1 hq.2 hc e e2)
theorem RowsAt.least {h : EH} {b t r : Nat} {w : Wd} {R : Tbl} {s : List Nat} (z : RowsAt h b t r w.n w.m R) (B : w.Bnd R) (sc : StepC s) (hw : wrg w.l w.r s 0 0 0 = none) (hk : w.p.kept s = true) :
    w.leastV h (.str s) (.ref r) = decide (R w.n w.m = some (priceS (cost w.c) w.l w.r s 0 0)) := by
  unfold Wd.leastV
  dsimp only
  rw [z.tbl, z.bound B, step_isSt sc, hw, hk]
  dsimp only
  rw [toT_rows (Nat.le_refl _) (Nat.le_refl _)]
  rfl
end Y

namespace Y
open PySem PySem.Spec PyProof.Rows L2

theorem RowsAt.off {h : EH} {b t r n m q : Nat} {R : Tbl} {o : EO} (z : RowsAt h b t r n m R) (hq : t ≤ q) : RowsAt (h.set q o) b t r n m R := by
  obtain ⟨rs, e, l, nd, nr, br, bq, z⟩ := z
  exact ⟨rs, set_off e (by omega), l, nd, nr, br, bq, fun i x hx => set_off (z i x hx) (by have := bq x (List.mem_of_getElem? hx); omega)⟩
theorem RowsAt.last {h : EH} {b t r n m : Nat} {R : Tbl} (z : RowsAt h b t r n m R) : ∃ q xs, h[r]? = some (.lst xs) ∧ atI xs (-1) = some (.ref q) ∧ xs.length = n + 1 ∧ (b ≤ q ∧ q < t) ∧ q ≠ r ∧ h[q]? = some (.lst (rowE m (R n))) ∧ atI (rowE m (R n)) (-1) = some (optE (R n m)) := by
  obtain ⟨q, xs, ex, ax, lx, bq, ne, zx⟩ := z.row (Nat.le_refl n)
  refine ⟨q, xs, ex, ?_, lx, bq, ne, zx, ?_⟩
  · rw [← atI_last' (n := n) lx]; exact (atI_n _ _).trans ax
  · rw [← atI_last' (n := m) (rowE_len _ _)]; exact (atI_n _ _).trans (rowE_at (Nat.le_refl _))
theorem Keep.tab {b : Nat} {h h' : EH} {r : Nat} {kvs : List (EV × EV)} (k : Keep (is1 b) h h') (B : BagAt h b) (e : h[r]? = some (.dic kvs)) : h'[r]? = some (.dic kvs) := by
  refine k.other e ?_
  rintro rfl
  obtain ⟨c, x, y, z, ns, e1, _⟩ := B
  rw [e1] at e
  cases e
def WorldAt (h : EH) (W : Nat) (v : EV) : Prop := ∃ (q : Nat) (l r : List Int) (t : Nat) (c : Tab) (p : Prom), v = .ref q ∧ W < q ∧ h[q]? = some (.lst [tx l, tx r, .ref t, p.e]) ∧ h[t]? = some (.dic (tabKV c)) ∧ TabOk c ∧ c.length ≤ 40 ∧ l.length ≤ 9 ∧ r.length ≤ 9 ∧ PromNN p
theorem WorldAt.keepB {h h' : EH} {W b : Nat} {v : EV} (z : WorldAt h W v) (B : BagAt h b) (k : Keep (is1 b) h h') : WorldAt h' W v := by
  obtain ⟨q, l, r, t, c, p, e, lt, e1, e2, rest⟩ := z
  refine ⟨q, l, r, t, c, p, e, lt, k.other e1 ?_, k.tab B e2, rest⟩
  rintro rfl
  obtain ⟨c, x, y, z, ns, e3, _⟩ := B
  rw [e1] at e3
  cases e3
structure Pk (h0 : EH) (b W L : Nat) (ns : List Int) (h : EH) (ws : List EV) : Prop where
  k : Keep (is1 b) h0 h
  B : BagAt h b
  w : h[W]? = some (.lst ws)
  a : ∀ v ∈ ws, WorldAt h W v
  l : h[L]? = some (.lst (ns.map EV.int))
end Y

namespace Y
open PySem PySem.Spec PyProof.Rows L2

def Grow (h0 h : EH) (m i : Nat) (R : Tbl) : Prop := Keep no1 h0 h ∧ ∃ rs : List Nat, h[h0.length]? = some (.lst (rs.map EV.ref)) ∧ rs.length = i ∧ rs.Nodup ∧ (∀ q ∈ rs, h0.length < q ∧ q < h.length) ∧ ∀ (a q : Nat), rs[a]? = some q → h[q]? = some (.lst (rowE m (R a)))
theorem Grow.start {h0 : EH} {m : Nat} {R : Tbl} : Grow h0 (h0 ++ [.lst []]) m 0 R := ⟨Keep.app _, [], new_at, rfl, List.nodup_nil, by simp, by simp⟩
theorem Grow.keep {h0 h h' : EH} {m i : Nat} {R : Tbl} (z : Grow h0 h m i R) (k : Keep no1 h h') : Grow h0 h' m i R := by
  obtain ⟨k0, rs, e, l, nd, b, g⟩ := z
  exact ⟨k0.trans k, rs, k.at e, l, nd, fun q hq => ⟨(b q hq).1, Nat.lt_of_lt_of_le (b q hq).2 k.1⟩, fun a q hq => k.at (g a q hq)⟩
theorem Grow.lst {h0 h : EH} {m i : Nat} {R : Tbl} (z : Grow h0 h m i R) : ∃ xs, h[h0.length]? = some (.lst xs) ∧ xs.length = i := by
  obtain ⟨k0, rs, e, l, nd, b, g⟩ := z
  exact ⟨_, e, by rw [List.length_map, l]⟩
theorem Grow.push {h0 h h' : EH} {m i W : Nat} {R : Tbl} {xs : List EV} (z : Grow h0 h m i R) (k : Keep no1 h h') (hW : h.length ≤ W) (eW : h'[W]? = some (.lst (rowE m (R i)))) (ex : h'[h0.length]? = some (.lst xs)) : Grow h0 (h'.set h0.length (.lst (xs ++ [.ref W]))) m (i + 1) R := by
  obtain ⟨k0, rs, e, l, nd, b, g⟩ := z
  have := k.at e
  rw [ex] at this
  cases this
  have lF := lt_of_at e
  have lW := lt_of_at eW
  refine ⟨(k0.trans k).fresh (Nat.le_refl _), rs ++ [W], by rw [set_at ex]; simp, by simp [l], ?_, ?_, ?_⟩
  · rw [List.nodup_append]
    refine ⟨nd, by simp, fun a ha b' hb => ?_⟩
    have := (b a ha).2
    simp at hb
    omega
  · intro q hq
    rcases List.mem_append.mp hq with y | y
    · have := b q y
      have := k.1
      simp; omega
    · have : q = W := by simpa using y
      subst this
      simp; omega
  · intro a q hq
    by_cases ha : a < i
    · rw [List.getElem?_append_left (by omega)] at hq
      exact set_off (k.at (g a q hq)) (by have := b q (List.mem_of_getElem? hq); omega)
    · rw [List.getElem?_append_right (by omega)] at hq
      have ha2 : a - rs.length = 0 := by
        have := (List.getElem?_eq_some_iff.mp hq).1
        simp at this; omega
      rw [ha2] at hq
      simp at hq
      subst hq
      have : a = i := by omega
      subst this
      exact set_off eW (by omega)
theorem Grow.done {h0 h : EH} {n m : Nat} {R : Tbl} (z : Grow h0 h m (n + 1) R) : RowsAt h h0.length h.length h0.length n m R := by
  obtain ⟨k0, rs, e, l, nd, b, g⟩ := z
  exact ⟨rs, e, l, nd, fun z => Nat.lt_irrefl _ (b _ z).1, ⟨Nat.le_refl _, lt_of_at e⟩, fun q hq => ⟨Nat.le_of_lt (b q hq).1, (b q hq).2⟩, g⟩
theorem rangeL_nat (n : Nat) : rangeL 0 n = (List.range' 0 n).map fun (k : Nat) => EV.int k := by
  unfold rangeL
  rw [List.range_eq_range']
  refine List.map_congr_left fun k _ => ?_
  rw [Int.zero_add]
theorem loop_nat {g : EH → Prop} {p : Pat} {tb : LS} {D : LEnds} (n : Nat) (I : Nat → En → EH → Prop)
    (stop : ∀ env h, I n env h → g h ∧ D.nx env h)
    (turn : ∀ i env h (k : En → EH → Prop), i < n → I i env h → (∀ env' h', I (i + 1) env' h' → k env' h') → g h ∧ lBind h p (.int (i : Nat)) env fun env2 => tb { D with nx := k, ct := k, bk := D.nx } env2 h) :
    ∀ env h, I 0 env h → loopE g p tb D (rangeL 0 n) env h := by
  intro env h i0
  rw [rangeL_nat]
  refine loop_ind (fun left env h => ∃ i : Nat, i ≤ n ∧ left = (List.range' i (n - i)).map (fun (k : Nat) => EV.int k) ∧ I i env h) ?_ ?_ _ _ _ ⟨0, Nat.zero_le _, rfl, i0⟩
  · rintro env h ⟨i, hi, el, z⟩
    have : i = n := by
      have := congrArg List.length el
      simp at this
      omega
    subst this
    exact stop env h z
  · rintro x left env h k ⟨i, hi, el, z⟩ hk
    have hi2 : i < n := by
      have := congrArg List.length el
      simp at this
      omega
    rw [show n - i = (n - i - 1) + 1 by omega, List.range'_succ, List.map_cons, List.cons.injEq] at el
    obtain ⟨rfl, rfl⟩ := el
    exact turn i env h k hi2 z fun env' h' z' => hk env' h' ⟨i + 1, hi2, by rw [show n - (i + 1) = n - i - 1 by omega], z'⟩
def stpN (l r : List Int) (i j : Nat) : List Nat := [107, 100, 112].filter fun c => canDo l r c i j
end Y

namespace Y
open PySem PySem.Spec PyProof.Rows L2

theorem RowsAt.keepB {h h' : EH} {b0 t r n m b : Nat} {R : Tbl} (z : RowsAt h b0 t r n m R) (B : BagAt h b) (k : Keep (is1 b) h h') : RowsAt h' b0 t r n m R := by
  obtain ⟨rs, e, l, nd, nr, br, bq, g⟩ := z
  obtain ⟨c, x, y, u, ns, eb, _⟩ := B
  refine ⟨rs, k.other e ?_, l, nd, nr, br, bq, fun i q hq => k.other (g i q hq) ?_⟩
  · rintro rfl
    rw [eb] at e
    cases rs with
    | nil => simp at l
    | cons a rs => simp at e
  · rintro rfl
    have g' := g i _ hq
    rw [eb] at g'
    have e4 : [EV.int x, .int y, .int u, .ref c] = rowE m (R i) := by simpa using g'
    have e5 : (rowE m (R i))[3]? = some (.ref c) := by rw [← e4]; rfl
    have l5 := (List.getElem?_eq_some_iff.mp e5).1
    rw [rowE_len] at l5
    rw [rowE_at (by omega)] at e5
    cases hv : R i 3 <;> rw [hv] at e5 <;> cases e5
theorem RowsAt.base {h : EH} {b b' t r n m : Nat} {R : Tbl} (z : RowsAt h b t r n m R) (l : b' ≤ b) : RowsAt h b' t r n m R := by
  obtain ⟨rs, e, l', nd, nr, br, bq, g⟩ := z
  exact ⟨rs, e, l', nd, nr, ⟨by omega, br.2⟩, fun q hq => ⟨by have := (bq q hq).1; omega, (bq q hq).2⟩, g⟩
theorem pts_snoc (c : Nat) : ∀ (s : List Nat) (i j : Nat), pts i j (s ++ [c]) = pts i j s ++ [(mvI (endS s i j).1 c, mvJ (endS s i j).2 c)]
  | [], i, j => rfl
  | d :: s, i, j => by rw [List.cons_append, pts, pts, pts_snoc c s, endS]; rfl
theorem endS_snoc (c : Nat) (s : List Nat) (i j : Nat) : endS (s ++ [c]) i j = (mvI (endS s i j).1 c, mvJ (endS s i j).2 c) := by
  rw [endS_app]; rfl
def nearB (g : Int) (i j : Nat) : Bool := decide ((((i : Int) - j).natAbs : Int) ≤ g)
structure Scr (l r : List Int) (g : Int) (k i j : Nat) (s : List Nat) : Prop where
  e : endS s 0 0 = (i, j)
  c : StepC s
  w : ∀ (t : List Nat) (x : Nat), wrg l r (s ++ t) 0 0 x = wrg l r t i j (x + s.length)
  p : ∀ q ∈ pts 0 0 s, nearB g q.1 q.2 = true
  n : s.length ≤ k
theorem Scr.step {l r : List Int} {g : Int} {k i j c : Nat} {s : List Nat} (z : Scr l r g k i j s) (hc : c ∈ (stpN l r i j).filter fun c => nearB g (mvI i c) (mvJ j c)) : Scr l r g (k + 1) (mvI i c) (mvJ j c) (s ++ [c]) := by
  rw [List.mem_filter] at hc
  obtain ⟨hc, hn⟩ := hc
  unfold stpN at hc
  rw [List.mem_filter] at hc
  obtain ⟨h3, cd⟩ := hc
  refine ⟨by rw [endS_snoc, z.e], fun x hx => ?_, fun t x => ?_, fun q hq => ?_, by have := z.n; simp; omega⟩
  · rcases List.mem_append.mp hx with y | y
    · exact z.c x y
    · rw [List.mem_singleton.mp y]
      simpa [isStep] using h3
  · rw [List.append_assoc, z.w, List.singleton_append, wrg, if_pos cd]
    simp; rfl
  · rw [pts_snoc, z.e] at hq
    rcases List.mem_append.mp hq with y | y
    · exact z.p q y
    · rw [List.mem_singleton.mp y]; exact hn
end Y

namespace Y
open PySem PySem.Spec PyProof.Rows L2

def DctAt (h : EH) (d : Nat) (w : Wd) : Prop := ∃ kvs, h[d]? = some (.dct kvs) ∧ ∀ a b, a ≤ w.n → b ≤ w.m → dGetT kvs (ptE a b) = some (optE (w.rest a b))
theorem DctAt.keep {h h' : EH} {d : Nat} {w : Wd} (z : DctAt h d w) (k : Keep no1 h h') : DctAt h' d w := by
  obtain ⟨kvs, e, g⟩ := z
  exact ⟨kvs, k.at e, g⟩
theorem DctAt.get {h : EH} {d : Nat} {w : Wd} (z : DctAt h d w) {a b : Nat} (ha : a ≤ w.n) (hb : b ≤ w.m) {P : EK} (q : P (optE (w.rest a b)) h) : ixA (.ref d) (ptE a b) h P := by
  obtain ⟨kvs, e, g⟩ := z
  exact ia_dt e (isKeyT_pt _ _) (g a b ha hb) q
def DctP (h : EH) (d : Nat) (w : Wd) (z : Nat) (done : Nat → Nat → Prop) : Prop := ∃ kvs, h[d]? = some (.dct kvs) ∧ kvs.length ≤ z ∧ ∀ a b, a ≤ w.n → b ≤ w.m → done a b → dGetT kvs (ptE a b) = some (optE (w.rest a b))
theorem DctP.get {h : EH} {d : Nat} {w : Wd} {z : Nat} {done : Nat → Nat → Prop} (y : DctP h d w z done) {a b : Nat} (ha : a ≤ w.n) (hb : b ≤ w.m) (hd : done a b) {P : EK} (q : P (optE (w.rest a b)) h) : ixA (.ref d) (ptE a b) h P := by
  obtain ⟨kvs, e, _, g⟩ := y
  exact ia_dt e (isKeyT_pt _ _) (g a b ha hb hd) q
theorem DctP.keep {h h' : EH} {d : Nat} {w : Wd} {z : Nat} {done : Nat → Nat → Prop} (y : DctP h d w z done) (k : Keep no1 h h') : DctP h' d w z done := by
  obtain ⟨kvs, e, l, g⟩ := y
  exact ⟨kvs, k.at e, l, g⟩
end Y

namespace Y
open PySem PySem.Spec PyProof.Rows L2

end Y

namespace Y
open PySem PySem.Spec PyProof.Rows L2

end Y

namespace Y
open PySem PySem.Spec PyProof.Rows L2

section
variable {w : Wd} {c : Tab} (hc : ∀ x, cost c x = cost w.c x)
include hc
end
end Y

namespace Y
open PySem PySem.Spec PyProof.Rows L2

mutual
inductive DatB (b : Nat) (h : EH) : Nat → EV → PyData → Prop
  | non {n : Nat} : DatB b h n .non .none
  | bl {n : Nat} (x : Bool) : DatB b h n (.bl x) (.bool x)
  | int {n : Nat} (i : Int) : DatB b h n (.int i) (.int i)
  | str {n : Nat} (s : List Nat) : DatB b h n (.str s) (.str (S s))
  | tup {n : Nat} {xs : List EV} {ds : List PyData} : DatsB b h n xs ds → DatB b h (n + 1) (.tup xs) (.tuple ds)
  | lst {n : Nat} {r : Nat} {xs : List EV} {ds : List PyData} : b < r → h[r]? = some (.lst xs) → DatsB b h n xs ds → DatB b h (n + 1) (.ref r) (.list ds)
inductive DatsB (b : Nat) (h : EH) : Nat → List EV → List PyData → Prop
  | nil {n : Nat} : DatsB b h n [] []
  | cons {n : Nat} {x : EV} {xs : List EV} {d : PyData} {ds : List PyData} : DatB b h n x d → DatsB b h n xs ds → DatsB b h n (x :: xs) (d :: ds)
end
mutual
theorem DatB.dat {b : Nat} {h : EH} : ∀ (d : PyData) (n : Nat) (v : EV), DatB b h n v d → Dat h n v d
  | .none, _, _, a => by cases a; exact .non
  | .bool _, _, _, a => by cases a; exact .bl _
  | .int _, _, _, a => by cases a; exact .int _
  | .str _, _, _, a => by cases a; exact .str _
  | .dict _, _, _, a => by cases a
  | .tuple ds, _, _, a => by
    cases a with
    | tup r => exact .tup (DatsB.dats ds _ _ r)
  | .list ds, _, _, a => by
    cases a with
    | lst l e r => exact .lst e (DatsB.dats ds _ _ r)
theorem DatsB.dats {b : Nat} {h : EH} : ∀ (ds : List PyData) (n : Nat) (vs : List EV), DatsB b h n vs ds → Dats h n vs ds
  | [], _, _, a => by cases a; exact .nil
  | d :: ds, _, _, a => by
    cases a with
    | cons x y => exact .cons (DatB.dat d _ _ x) (DatsB.dats ds _ _ y)
end
mutual
theorem DatB.mono {b b' : Nat} {h h' : EH} (kp : ∀ r xs, b < r → h[r]? = some (.lst xs) → b' < r ∧ h'[r]? = some (.lst xs)) : ∀ (d : PyData) (n j : Nat) (v : EV), n ≤ j → DatB b h n v d → DatB b' h' j v d
  | .none, _, _, _, _, a => by cases a; exact .non
  | .bool _, _, _, _, _, a => by cases a; exact .bl _
  | .int _, _, _, _, _, a => by cases a; exact .int _
  | .str _, _, _, _, _, a => by cases a; exact .str _
  | .dict _, _, _, _, _, a => by cases a
  | .tuple ds, n, j, _, l, a => by
    cases a with
    | tup r =>
      cases j with
      | zero => omega
      | succ j => exact .tup (DatsB.mono kp ds _ j _ (by omega) r)
  | .list ds, n, j, _, l, a => by
    cases a with
    | lst lr e r =>
      cases j with
      | zero => omega
      | succ j =>
        obtain ⟨y, e2⟩ := kp _ _ lr e
        exact .lst y e2 (DatsB.mono kp ds _ j _ (by omega) r)
theorem DatsB.mono {b b' : Nat} {h h' : EH} (kp : ∀ r xs, b < r → h[r]? = some (.lst xs) → b' < r ∧ h'[r]? = some (.lst xs)) : ∀ (ds : List PyData) (n j : Nat) (vs : List EV), n ≤ j → DatsB b h n vs ds → DatsB b' h' j vs ds
  | [], _, _, _, _, a => by cases a; exact .nil
  | d :: ds, _, _, _, l, a => by
    cases a with
    | cons x y => exact .cons (DatB.mono kp d _ _ _ l x) (DatsB.mono kp ds _ _ _ l y)
end
structure SmlD (k : Nat) (d : PyData) : Prop where
  s : d.showable = true
  l : d.leavesShort 42 = true
  w : d.weight ≤ k
structure SmlDs (k : Nat) (d : List PyData) : Prop where
  s : PyData.showableAll d = true
  l : PyData.leavesShortAll 42 d = true
  w : PyData.weightAll d ≤ k
def VOk (b : Nat) (h : EH) (n k : Nat) (v : EV) : Prop := ∃ d, DatB b h n v d ∧ SmlD k d
def VsOk (b : Nat) (h : EH) (n k : Nat) (vs : List EV) : Prop := ∃ ds, DatsB b h n vs ds ∧ SmlDs k ds
section
variable {b : Nat} {h h' : EH} {n k j : Nat}
theorem VOk.keepB {v : EV} (z : VOk b h n k v) (kp : Keep (is1 b) h h') : VOk b h' n k v := by
  obtain ⟨d, a, c⟩ := z
  exact ⟨d, DatB.mono (fun r xs lr e => ⟨lr, kp.2 r _ e (fun y => by rw [is1] at y; omega)⟩) d n n v (Nat.le_refl _) a, c⟩
theorem VOk.keep {v : EV} (z : VOk b h n k v) (kp : Keep no1 h h') : VOk b h' n k v := z.keepB kp.all
theorem VOk.up {v : EV} {n' k' : Nat} (z : VOk b h n k v) (hn : n ≤ n') (hk : k ≤ k') : VOk b h n' k' v := by
  obtain ⟨d, a, c⟩ := z
  exact ⟨d, DatB.mono (fun r xs lr e => ⟨lr, e⟩) d n n' v hn a, c.s, c.l, Nat.le_trans c.w hk⟩
theorem VOk.low {v : EV} {b' : Nat} (z : VOk b h n k v) (hb : b' ≤ b) : VOk b' h n k v := by
  obtain ⟨d, a, c⟩ := z
  exact ⟨d, DatB.mono (fun r xs lr e => ⟨by omega, e⟩) d n n v (Nat.le_refl _) a, c⟩
theorem VOk.non : VOk b h n k .non := ⟨_, .non, by simp [PyData.showable], by simp [PyData.leavesShort], by simp [PyData.weight]⟩
theorem VOk.bl {x : Bool} : VOk b h n k (.bl x) := ⟨_, .bl x, by simp [PyData.showable], by simp [PyData.leavesShort], by simp [PyData.weight]⟩
theorem VOk.int {i : Int} (hi : i.natAbs < 10 ^ 31) (hk : 104 ≤ k) : VOk b h n k (.int i) := by
  have l : i.natAbs.log2 < 103 := log_le (Nat.lt_of_lt_of_le hi (by decide)) (by decide)
  refine ⟨_, .int i, ?_, ?_, ?_⟩
  · rw [PyData.showable.eq_4]
    exact decide_eq_true (by omega)
  · simp only [PyData.leavesShort]
    refine decide_eq_true ?_
    have e := PySem.int_text_length_le10 (k := 31) (a := i) (by decide) hi
    show (Str.ofString (toString i)).length ≤ 42
    rw [PySem.ofString_length]; omega
  · simp only [PyData.weight]
    split <;> omega
theorem VOk.str {s : List Nat} (hs : ∀ c ∈ s, c < 16 ^ 8) (hk : s.length ≤ k) : VOk b h n k (.str s) := by
  refine ⟨_, .str s, by rw [PyData.showable.eq_3], ?_, ?_⟩
  · simp only [PyData.leavesShort, List.all_eq_true, decide_eq_true_eq]
    exact fun c hc => hs c (by simpa using hc)
  · simp only [PyData.weight]
    simpa using hk
theorem VsOk.nil : VsOk b h n k [] := ⟨[], .nil, by simp [PyData.showableAll], by simp [PyData.leavesShortAll], by simp [PyData.weightAll]⟩
theorem VsOk.cons {x : EV} {xs : List EV} {c : Nat} (a : VOk b h n c x) (z : VsOk b h n k xs) : VsOk b h n (c + 1 + k) (x :: xs) := by
  obtain ⟨d, a1, a2⟩ := a
  obtain ⟨ds, z1, z2⟩ := z
  refine ⟨d :: ds, .cons a1 z1, ?_, ?_, ?_⟩
  · simp only [PyData.showableAll, a2.s, z2.s, Bool.and_self]
  · simp only [PyData.leavesShortAll, a2.l, z2.l, Bool.and_self]
  · simp only [PyData.weightAll]
    have := a2.w
    have := z2.w
    omega
theorem VsOk.all {c : Nat} : ∀ {vs : List EV}, (∀ v ∈ vs, VOk b h n c v) → VsOk b h n (vs.length * (c + 1)) vs
  | [], _ => VsOk.nil
  | x :: xs, z => by
    have y := VsOk.cons (z x (by simp)) (VsOk.all (vs := xs) fun v hv => z v (List.mem_cons_of_mem _ hv))
    rw [List.length_cons, Nat.add_mul, Nat.one_mul, Nat.add_comm]
    exact y
theorem VsOk.up {vs : List EV} {k' : Nat} (z : VsOk b h n k vs) (hk : k ≤ k') : VsOk b h n k' vs := by
  obtain ⟨ds, a, c⟩ := z
  exact ⟨ds, a, c.s, c.l, Nat.le_trans c.w hk⟩
theorem VOk.tup {xs : List EV} (z : VsOk b h n k xs) : VOk b h (n + 1) k (.tup xs) := by
  obtain ⟨ds, a, c⟩ := z
  refine ⟨_, .tup a, ?_, ?_, ?_⟩
  · simpa only [PyData.showable] using c.s
  · simpa only [PyData.leavesShort] using c.l
  · simpa only [PyData.weight] using c.w
theorem VOk.lst {r : Nat} {xs : List EV} (hb : b < r) (e : h[r]? = some (.lst xs)) (z : VsOk b h n k xs) : VOk b h (n + 1) k (.ref r) := by
  obtain ⟨ds, a, c⟩ := z
  refine ⟨_, .lst hb e a, ?_, ?_, ?_⟩
  · simpa only [PyData.showable] using c.s
  · simpa only [PyData.leavesShort] using c.l
  · simpa only [PyData.weight] using c.w
theorem SmlD.fits {d : PyData} (z : SmlD k d) (hk : k ≤ 2 ^ 17) : d.shown.length ≤ sizeLine := by
  have h1 := PyData.shown_le 42 (by decide) d z.l
  have e : (2 : Nat) ^ 17 = 131072 := by decide
  have h2 : (42 + 2) * d.weight ≤ 44 * 131072 := Nat.mul_le_mul (Nat.le_refl _) (Nat.le_trans z.w (by omega))
  rw [sizeLine_eq]
  omega
theorem VOk.repr {v : EV} (z : VOk b h n k v) (hn : n ≤ 60) (hk : k ≤ 2 ^ 17) : ∃ s : List Nat, ∀ (h2 : EH) (P : EK), Keep (is1 b) h h2 → P (.str s) h2 → reprE [v] h2 P := by
  obtain ⟨d, a, c⟩ := z
  refine ⟨d.shown.cps.toList, fun h2 P k2 p => ⟨d, ?_, c.s, c.fits hk, p⟩⟩
  exact (DatB.dat d n v (DatB.mono (fun r xs lr e => ⟨lr, k2.2 r _ e (fun y => by rw [is1] at y; omega)⟩) d n n v (Nat.le_refl _) a)).deep hn
theorem DatB.ty {v : EV} {d : PyData} (a : DatB b h n v d) : (tyE v h).isSome = true := by
  cases a with
  | lst _ e _ => simp [tyE, e]
  | _ => simp [tyE]
theorem VOk.ty {v : EV} (z : VOk b h n k v) : (tyE v h).isSome = true := by
  obtain ⟨d, a, _⟩ := z
  exact a.ty
theorem DatsB.at {vs : List EV} {ds : List PyData} : DatsB b h n vs ds → ∀ x ∈ vs, ∃ d, DatB b h n x d := by
  induction vs generalizing ds with
  | nil => intro _ x hx; simp at hx
  | cons y ys ih =>
    intro a x hx
    cases a with
    | cons a1 a2 =>
      rcases List.mem_cons.mp hx with rfl | hx
      · exact ⟨_, a1⟩
      · exact ih a2 x hx
theorem DatB.items {v : EV} {d : PyData} {xs : List EV} (a : DatB b h n v d) (e : isLst v h = some xs) : ∀ x ∈ xs, ∃ d n, DatB b h n x d := by
  obtain ⟨r, rfl, er⟩ := isLst_some e
  cases a with
  | lst _ e2 z =>
    rw [er] at e2
    cases e2
    intro x hx
    obtain ⟨d, q⟩ := z.at x hx
    exact ⟨d, _, q⟩
end
structure LookV (h : EH) (v : EV) : Prop where
  ty : (tyE v h).isSome = true
  its : ∀ xs, isLst v h = some xs → ∀ x ∈ xs, (tyE x h).isSome = true
  its2 : ∀ xs, isLst v h = some xs → ∀ x ∈ xs, ∀ ys, isLst x h = some ys → ∀ y ∈ ys, (tyE y h).isSome = true
theorem VOk.look {b n k : Nat} {h : EH} {v : EV} (z : VOk b h n k v) : LookV h v := by
  obtain ⟨d, a, _⟩ := z
  refine ⟨a.ty, fun xs e x hx => ?_, fun xs e x hx ys e2 y hy => ?_⟩
  · obtain ⟨_, _, q⟩ := a.items e x hx
    exact q.ty
  · obtain ⟨_, _, q⟩ := a.items e x hx
    obtain ⟨_, _, q2⟩ := q.items e2 y hy
    exact q2.ty
structure Rws (b : Nat) (h : EH) (r n m : Nat) (R : Tbl) : Prop where
  z : RowsAt h (b + 1) h.length r n m R
  s : ∀ i j v, R i j = some v → v.natAbs < 10 ^ 9
  n8 : n ≤ 9
  m8 : m ≤ 9
theorem RowsAt.lt2 {h : EH} {b t r n m : Nat} {R : Tbl} (z : RowsAt h b t r n m R) : b ≤ r := z.choose_spec.2.2.2.2.1.1
theorem Rws.keepB {b r n m : Nat} {h h' : EH} {R : Tbl} (w : Rws b h r n m R) (k : Keep (is1 b) h h') : Rws b h' r n m R := by
  refine ⟨?_, w.s, w.n8, w.m8⟩
  obtain ⟨rs, e, l, nd, nr, br, bq, g⟩ := w.z
  refine ⟨rs, k.2 r _ e (fun y => by rw [is1] at y; omega), l, nd, nr, ⟨br.1, Nat.lt_of_lt_of_le br.2 k.1⟩, fun q hq => ⟨(bq q hq).1, Nat.lt_of_lt_of_le (bq q hq).2 k.1⟩, fun i q hq => k.2 q _ (g i q hq) fun y => ?_⟩
  have := bq q (List.mem_of_getElem? hq)
  rw [is1] at y
  omega
theorem Rws.keep {b r n m : Nat} {h h' : EH} {R : Tbl} (w : Rws b h r n m R) (k : Keep no1 h h') : Rws b h' r n m R := w.keepB k.all
theorem Rws.of {b b0 t r n m : Nat} {h : EH} {R : Tbl} (z : RowsAt h b0 t r n m R) (hb : b < b0) (ht : t ≤ h.length) (s : ∀ i j v, R i j = some v → v.natAbs < 10 ^ 9) (hn : n ≤ 9) (hm : m ≤ 9) : Rws b h r n m R :=
  ⟨(z.more ht).base (by omega), s, hn, hm⟩
theorem VOk.opt {b : Nat} {h : EH} {n : Nat} {o : Option Int} (hs : ∀ v, o = some v → v.natAbs < 10 ^ 9) : VOk b h n 104 (optE o) := by
  cases o with
  | none => exact VOk.non
  | some v => exact VOk.int (Nat.lt_trans (hs v rfl) (by decide)) (Nat.le_refl _)
theorem Rws.ok {b r n m : Nat} {h : EH} {R : Tbl} (w : Rws b h r n m R) : VOk b h 2 20000 (.ref r) := by
  obtain ⟨rs, e, l, nd, nr, br, bq, g⟩ := w.z
  have h1 := w.n8
  have h2 := w.m8
  refine VOk.lst (by omega) e ((VsOk.all (c := 1050) fun v hv => ?_).up ?_)
  · obtain ⟨q, hq, rfl⟩ := List.mem_map.mp hv
    obtain ⟨i, hi⟩ := List.getElem?_of_mem hq
    refine VOk.lst (by have := (bq q hq).1; omega) (g i q hi) ((VsOk.all (c := 104) fun v hv => ?_).up ?_)
    · obtain ⟨j, _, rfl⟩ := List.mem_map.mp hv
      exact VOk.opt fun x hx => w.s _ _ x hx
    · rw [rowE_len]
      have : (m + 1) * (104 + 1) ≤ 10 * 105 := Nat.mul_le_mul (by omega) (Nat.le_refl _)
      omega
  · rw [List.length_map, l]
    have : (n + 1) * (1050 + 1) ≤ 10 * 1051 := Nat.mul_le_mul (by omega) (Nat.le_refl _)
    omega
end Y

namespace Y
open PySem PySem.Spec PyProof.Rows L2

end Y

namespace Y
open PySem PySem.Spec PyProof.Rows L2

end Y

namespace Y
open PySem PySem.Spec PyProof.Rows L2

end Y

namespace Y
open PySem PySem.Spec PyProof.Rows L2

end Y

namespace Y
open PySem PySem.Spec PyProof.Rows L2

end Y

namespace Y
open PySem PySem.Spec PyProof.Rows L2

def DSX (h : EH) (k : Nat) (v : EV) (d : PyData) : Prop := DatX h v d ∧ d.showable = true ∧ d.leavesShort 13 = true ∧ d.weight ≤ k
theorem DSX.fits {h : EH} {k : Nat} {v : EV} {d : PyData} (x : DSX h k v d) (hk : k ≤ 2 ^ 20) : d.showable = true ∧ d.shown.length ≤ sizeLine := ⟨x.2.1, PyData.shown_fits (by decide) (by decide) x.2.2.1 (Nat.le_trans x.2.2.2 hk)⟩
theorem DS.x {h : EH} {n k : Nat} {v : EV} {d : PyData} (x : DS h n k v d) (hn : n ≤ 55) : DSX h k v d := ⟨.el (.pl (Dat.deep x.1 hn)), x.2⟩
def DSK (h : EH) (k : Nat) (kvs : List (EV × EV)) (ps : List (L2.Key × PyData)) : Prop := DKV h kvs ps ∧ PyData.showableKv (ps.map fun p => (kD p.1, p.2)) = true ∧ PyData.leavesShortKv 13 (ps.map fun p => (kD p.1, p.2)) = true ∧ PyData.weightKv (ps.map fun p => (kD p.1, p.2)) ≤ k
theorem DSK.nil {h : EH} {k : Nat} : DSK h k [] [] := ⟨.nil, by simp [PyData.showableKv], by simp [PyData.leavesShortKv], by simp [PyData.weightKv]⟩
theorem DSK.int {h : EH} {n a b : Nat} {i : Int} {v : EV} {d : PyData} {r : List (EV × EV)} {ps : List (L2.Key × PyData)} (hi : i.natAbs < 10 ^ 12) (x : DS h n a v d) (hn : n ≤ 50) (f : flatD d = true) (z : DSK h b r ps) : DSK h (41 + a + 2 + b) ((.int i, v) :: r) ((.inl i, d) :: ps) := by
  have y := DS.int (h := h) (n := 0) (k := 41) hi (Nat.le_refl _)
  have ek : kD (.inl i) = .int i := rfl
  refine ⟨.int (Dat.deep x.1 hn) f z.1, ?_, ?_, ?_⟩
  · simp only [List.map_cons, PyData.showableKv, ek, x.2.1, z.2.1, y.2.1, Bool.and_self]
  · simp only [List.map_cons, PyData.leavesShortKv, ek, x.2.2.1, z.2.2.1, y.2.2.1, Bool.and_self]
  · simp only [List.map_cons, PyData.weightKv, ek]
    have := x.2.2.2
    have := y.2.2.2
    have := z.2.2.2
    omega
theorem DSK.dic {h : EH} {k r : Nat} {kvs : List (EV × EV)} {ps : List (L2.Key × PyData)} (e : h[r]? = some (.dic kvs)) (x : DSK h k kvs ps) : DatE h (.ref r) (dicD ps) ∧ (dicD ps).showable = true ∧ (dicD ps).leavesShort 13 = true ∧ (dicD ps).weight ≤ k := by
  refine ⟨.dic e x.1, ?_, ?_, ?_⟩
  · simpa only [dicD, PyData.showable] using x.2.1
  · simpa only [dicD, PyData.leavesShort] using x.2.2.1
  · simpa only [dicD, PyData.weight] using x.2.2.2
theorem DSK.x {h : EH} {k r : Nat} {kvs : List (EV × EV)} {ps : List (L2.Key × PyData)} (e : h[r]? = some (.dic kvs)) (x : DSK h k kvs ps) : DSX h k (.ref r) (dicD ps) := ⟨.el (x.dic e).1, (x.dic e).2⟩
def sp__law_alikeX (_ : Ad) : LSp := fun evs h Q => ∃ (v w : EV) (d : PyData), evs = [v, w] ∧ DatX h v d ∧ DatX h w d ∧ d.showable = true ∧ d.shown.length ≤ sizeLine ∧ Q (.bl true) h
abbrev N__law_alikeX : List Str := ["_law_found", "_law_due"]
def t__law_alikeX (ad : Ad) : LS :=
    lRet (lAndV (lOp (eqX false) (lVar 0) (lVar 1)) (lOp (eqX false) (lCB reprX (lCons (lVar 0) (lNil))) (lCB reprX (lCons (lVar 1) (lNil)))))
theorem len__law_alikeX (ad : Ad) (evs : List EV) (h : EH) (Q : EK) (q : sp__law_alikeX ad evs h Q) : evs.length = ["_law_found", "_law_due"].length := by
  obtain ⟨_, _, _, rfl, _⟩ := q; rfl
theorem eqX_same {h : EH} {v w : EV} {d : PyData} {P : EK} (a : DatX h v d) (b : DatX h w d) (p : P (.bl true) h) : eqX false v w h P := by
  have plain : ∀ {v w : EV} {d : PyData}, Dat h 55 v d → Dat h 55 w d → eqX false v w h P := fun a b => .inl (eqE_same (Dat.deep a (by decide)) (Dat.deep b (by decide)) p)
  have nodic : ∀ {v : EV} {ps : List (L2.Key × PyData)}, Dat h 55 v (dicD ps) → False := fun {v ps} a => by
    unfold dicD at a; cases a
  have elel : ∀ {v w : EV} {d : PyData}, DatE h v d → DatE h w d → eqX false v w h P := by
    intro v w d a b
    cases a with
    | pl a =>
      cases b with
      | pl b => exact plain a b
      | dic _ _ => exact (nodic a).elim
    | @dic r k1 p1 e1 d1 =>
      generalize hd : dicD p1 = d at b
      cases b with
      | pl b => rw [← hd] at b; exact (nodic b).elim
      | @dic q k2 p2 e2 d2 =>
        have := dicD_inj hd
        subst this
        exact .inr (.inr (.inr ⟨r, q, k1, k2, p1, rfl, rfl, e1, e2, d1, d2, p⟩))
  have plainEs : ∀ {xs : List EV} {ds : List PyData}, Dats h 54 xs ds → DatEs h xs ds := by
    intro xs ds z
    induction ds generalizing xs with
    | nil => cases z; exact .nil
    | cons d ds ih =>
      cases z with
      | cons z1 z2 => exact .cons (.pl (Dat.deep z1 (by decide))) (ih z2)
  cases a with
  | el a =>
    cases b with
    | el b => exact elel a b
    | @lst q ys ds e2 d2 =>
      cases a with
      | pl a =>
        cases a with
        | lst e1 d1 => exact .inr (.inr (.inl ⟨rfl, _, q, _, ys, ds, rfl, rfl, e1, e2, plainEs d1, d2, p⟩))
  | @lst r xs ds e1 d1 =>
    generalize hd : PyData.list ds = d at b
    cases b with
    | el b =>
      cases b with
      | pl b =>
        rw [← hd] at b
        cases b with
        | lst e2 d2 => exact .inr (.inr (.inl ⟨rfl, r, _, xs, _, ds, rfl, rfl, e1, e2, d1, plainEs d2, p⟩))
      | dic _ _ => unfold dicD at hd; cases hd
    | @lst q ys ds2 e2 d2 =>
      cases hd
      exact .inr (.inr (.inl ⟨rfl, r, q, xs, ys, ds, rfl, rfl, e1, e2, d1, d2, p⟩))
theorem pure__law_alikeX (ad : Ad) (evs : List EV) (h : EH) (Q : EK) (q : sp__law_alikeX ad evs h Q) : t__law_alikeX ad (endsOf Q) (startE N__law_alikeX evs) h := by
  obtain ⟨v, w, d, rfl, a, b, s, z, q⟩ := q
  show t__law_alikeX ad (endsOf Q) [some v, some w] h
  simp only [t__law_alikeX, lSeq, lSet, lRet, lRetN, lDrop, lIfS, lOp, lVar, lC, lB, lT, lAnd, lOr, lNot, lIf, lAndV, lOrV, lNotV, lNil, lCons, lTup, lLst, lCB, lBM, lSl, lPart, lNext, lFor, lIt, lRng1, lRng2, lAsg, lPar, lSetI, lSetA, lAugS, lLc, lZip, lNeg, lCall, lChain, List.getElem?_cons_zero, List.getElem?_cons_succ, List.set_cons_zero, List.set_cons_succ, truE, wipeE, intP, intE]
  refine eqX_same a b ?_
  simp only [if_true]
  refine ⟨d, a, s, z, ⟨d, b, s, z, .inl ?_⟩⟩
  exact eq_s (by simpa using q)
theorem alikeX_ok {ad : Ad} {v w : EV} {d : PyData} {k : Nat} {h : EH} {Q : EK} (a : DSX h k v d) (b : DSX h k w d) (hk : k ≤ 2 ^ 20) (q : Q (.bl true) h) : sp__law_alikeX ad [v, w] h Q := ⟨v, w, d, rfl, a.1, b.1, (a.fits hk).1, (a.fits hk).2, q⟩
end Y

namespace Y
open PySem PySem.Spec PyProof.Rows L2

abbrev LKV := List (Nat × Int)
def lnKV (l : LKV) : List (EV × EV) := l.map fun q => (.int q.1, .int q.2)
def lk (l : LKV) (i : Nat) : Option Int := l.lookup i
def lnE : Option Nat → EV
  | none => .non
  | some n => .int n
structure LaneAt (ad : Ad) (h : EH) (p d : Nat) (l : LKV) (n : Option Nat) : Prop where
  o : h[p]? = some (.slo ad.a_Lane [some (lnE n), some (.ref d)])
  d : h[d]? = some (.dic (lnKV l))
theorem LaneAt.keep {ad : Ad} {h h' : EH} {p d : Nat} {l : LKV} {n : Option Nat} (z : LaneAt ad h p d l n) (k : Keep no1 h h') : LaneAt ad h' p d l n := ⟨k.at z.o, k.at z.d⟩
def lput (l : LKV) (i : Nat) (x : Int) : LKV := if (lk l i).isSome = true then l.map fun q => if q.1 = i then (q.1, x) else q else l ++ [(i, x)]
def lputs (l : LKV) (p : Nat) : List Int → LKV
  | [] => l
  | x :: xs => lputs (lput l p x) (p + 1) xs
theorem lk_nil (i : Nat) : lk [] i = none := rfl
theorem lk_cons (q : Nat × Int) (l : LKV) (i : Nat) : lk (q :: l) i = if q.1 = i then some q.2 else lk l i := by
  unfold lk
  rw [List.lookup_cons]
  by_cases e : q.1 = i
  · have : (i == q.1) = true := by simp [e]
    rw [this, if_pos e]
  · have : (i == q.1) = false := by simp; exact fun z => e z.symm
    rw [this, if_neg e]
theorem ln_get (l : LKV) (i : Nat) : dGet (lnKV l) (.int i) = (lk l i).map EV.int := by
  induction l with
  | nil => rfl
  | cons q l ih =>
    unfold lnKV at ih ⊢
    rw [List.map_cons, dGet, lk_cons]
    by_cases e : q.1 = i
    · rw [if_pos e, if_pos (by simp [kEq, e])]; rfl
    · rw [if_neg e, if_neg (by simp [kEq]; omega)]; exact ih
theorem ln_has (l : LKV) (i : Nat) : dHas (lnKV l) (.int i) = (lk l i).isSome := by
  unfold dHas
  rw [ln_get]
  cases lk l i <;> rfl
theorem ln_put (l : LKV) (i : Nat) (x : Int) : dPut (lnKV l) (.int i) (.int x) = lnKV (lput l i x) := by
  unfold dPut lput
  rw [ln_has]
  split
  · unfold dRep lnKV
    rw [List.map_map, List.map_map]
    refine List.map_congr_left fun q _ => ?_
    by_cases e : q.1 = i
    · simp [kEq, e]
    · have e2 : ¬ (q.1 : Int) = i := by omega
      simp [kEq, e, e2]
  · unfold lnKV
    simp
theorem lk_app (l l' : LKV) (i : Nat) : lk (l ++ l') i = (lk l i).or (lk l' i) := by
  induction l with
  | nil => simp [lk_nil]
  | cons q l ih =>
    rw [List.cons_append, lk_cons, lk_cons, ih]
    split <;> simp
theorem lk_put (l : LKV) (i j : Nat) (x : Int) : lk (lput l i x) j = if j = i then some x else lk l j := by
  unfold lput
  split
  · rename_i h
    induction l with
    | nil => simp [lk_nil] at h
    | cons q l ih =>
      rw [List.map_cons, lk_cons, lk_cons]
      rw [lk_cons] at h
      by_cases e : q.1 = i
      · by_cases e2 : i = j
        · subst e2; simp [e]
        · have e3 : ¬ j = i := fun z => e2 z.symm
          simp only [e, if_true, e2, e3, if_false]
          clear ih h
          induction l with
          | nil => rfl
          | cons r l ih =>
            rw [List.map_cons, lk_cons, lk_cons, ih]
            by_cases e4 : r.1 = i
            · simp only [e4, if_true, e2, if_false]
            · simp only [e4, if_false]
      · simp only [e, if_false] at h ⊢
        by_cases e2 : q.1 = j
        · have : ¬ j = i := fun z => e (e2.trans z)
          simp [e2, this]
        · simp only [e2, if_false]
          exact ih h
  · rename_i h
    rw [lk_app, lk_cons, lk_nil]
    by_cases e : j = i
    · subst e
      have : lk l j = none := by simpa using h
      simp [this]
    · have e2 : ¬ i = j := fun z => e z.symm
      simp [e, e2]
theorem lk_puts (l : LKV) (p : Nat) (xs : List Int) (j : Nat) : lk (lputs l p xs) j = if p ≤ j ∧ j < p + xs.length then xs[j - p]? else lk l j := by
  induction xs generalizing l p with
  | nil =>
    rw [lputs, if_neg (by simp)]
  | cons x xs ih =>
    rw [lputs, ih, lk_put, List.length_cons]
    by_cases h1 : j = p
    · subst h1
      rw [if_neg (by omega), if_pos rfl, if_pos (by omega), Nat.sub_self]; rfl
    · by_cases h2 : p ≤ j ∧ j < p + (xs.length + 1)
      · rw [if_pos (by omega), if_pos h2, show j - p = j - (p + 1) + 1 by omega, List.getElem?_cons_succ]
      · rw [if_neg (by omega), if_neg h1, if_neg h2]
abbrev lkeys (l : LKV) : List Nat := l.map (·.1)
theorem lk_none {l : LKV} {i : Nat} : lk l i = none ↔ i ∉ lkeys l := by
  induction l with
  | nil => simp [lk_nil]
  | cons q l ih =>
    rw [lk_cons]
    simp only [List.map_cons, List.mem_cons, not_or]
    by_cases e : q.1 = i
    · simp [e]
    · rw [if_neg e, ih]
      exact ⟨fun z => ⟨fun y => e y.symm, z⟩, fun z => z.2⟩
theorem lk_isSome {l : LKV} {i : Nat} : (lk l i).isSome = true ↔ i ∈ lkeys l := by
  have := lk_none (l := l) (i := i)
  cases h : lk l i with
  | none => simpa [h] using this
  | some x => simpa [h] using this
theorem lput_keys (l : LKV) (i : Nat) (x : Int) : lkeys (lput l i x) = if (lk l i).isSome = true then lkeys l else lkeys l ++ [i] := by
  unfold lput
  split
  · show List.map _ (List.map _ l) = List.map _ l
    rw [List.map_map]
    refine List.map_congr_left fun q _ => ?_
    simp only [Function.comp]
    split <;> rfl
  · simp
theorem lput_nd {l : LKV} (nd : (lkeys l).Nodup) (i : Nat) (x : Int) : (lkeys (lput l i x)).Nodup := by
  rw [lput_keys]
  split
  · exact nd
  · rename_i h
    rw [List.nodup_append]
    refine ⟨nd, by simp, fun a ha b hb => ?_⟩
    have : b = i := by simpa using hb
    subst this
    rintro rfl
    exact h (lk_isSome.mpr ha)
theorem lputs_nd {l : LKV} (nd : (lkeys l).Nodup) (p : Nat) (xs : List Int) : (lkeys (lputs l p xs)).Nodup := by
  induction xs generalizing l p with
  | nil => exact nd
  | cons x xs ih => exact ih (lput_nd nd p x) (p + 1)
theorem lput_len (l : LKV) (i : Nat) (x : Int) : (lput l i x).length ≤ l.length + 1 := by
  unfold lput
  split <;> simp
theorem lputs_len (l : LKV) (p : Nat) (xs : List Int) : (lputs l p xs).length ≤ l.length + xs.length := by
  induction xs generalizing l p with
  | nil => exact Nat.le_refl _
  | cons x xs ih =>
    have := ih (lput l p x) (p + 1)
    have := lput_len l p x
    rw [lputs, List.length_cons]
    omega
theorem lk_mem {l : LKV} (nd : (lkeys l).Nodup) {q : Nat × Int} : q ∈ l ↔ lk l q.1 = some q.2 := by
  induction l with
  | nil => simp [lk_nil]
  | cons r l ih =>
    simp only [List.map_cons, List.nodup_cons] at nd
    rw [lk_cons, List.mem_cons, ih nd.2]
    by_cases e : r.1 = q.1
    · rw [if_pos e]
      constructor
      · rintro (rfl | z)
        · rfl
        · have : lk l q.1 ≠ none := by rw [z]; simp
          exact absurd (by rw [e]; exact lk_isSome.mp (by rw [z]; rfl)) nd.1
      · intro z
        left
        cases q; cases r
        simp at e z
        rw [e, z]
    · rw [if_neg e]
      constructor
      · rintro (rfl | z)
        · exact absurd rfl e
        · exact z
      · exact .inr
structure LOk (l : LKV) (n : Option Nat) : Prop where
  nd : (lkeys l).Nodup
  rg : ∀ q ∈ l, q.1 < 200 ∧ 0 ≤ q.2 ∧ q.2 ≤ 2000000000
  sz : l.length < 64
  le : ∀ m, n = some m → m < 1000 ∧ ∀ q ∈ l, q.1 < m
theorem sub_len : ∀ {a b : List Nat}, a.Nodup → (∀ x ∈ a, x ∈ b) → a.length ≤ b.length
  | [], _, _, _ => Nat.zero_le _
  | x :: a, b, nd, h => by
    rw [List.nodup_cons] at nd
    have hx := h x List.mem_cons_self
    have := sub_len (a := a) (b := b.erase x) nd.2 fun y hy => (List.mem_erase_of_ne (fun z => nd.1 (by rw [← z]; exact hy))).mpr (h y (List.mem_cons_of_mem _ hy))
    rw [List.length_erase_of_mem hx] at this
    have := List.length_pos_of_mem hx
    rw [List.length_cons]
    omega
def IsHead (l : LKV) (xs : List Int) : Prop := (∀ i, i < xs.length → lk l i = xs[i]?) ∧ lk l xs.length = none
theorem IsHead.le {l : LKV} {xs : List Int} (z : IsHead l xs) {ys : List Int} (y : IsHead l ys) : xs.length ≤ ys.length := by
  rcases Nat.lt_or_ge ys.length xs.length with h | h
  · have := z.1 _ h
    rw [y.2, List.getElem?_eq_getElem h] at this
    cases this
  · exact h
theorem IsHead.uniq {l : LKV} {xs ys : List Int} (z : IsHead l xs) (y : IsHead l ys) : xs = ys := by
  have e := Nat.le_antisymm (z.le y) (y.le z)
  refine List.ext_getElem? fun i => ?_
  by_cases h : i < xs.length
  · rw [← z.1 i h, ← y.1 i (by omega)]
  · rw [List.getElem?_eq_none (by omega), List.getElem?_eq_none (by omega)]
theorem head_len {l : LKV} {n : Nat} (h : ∀ i, i < n → (lk l i).isSome = true) : n ≤ l.length := by
  have := sub_len (a := List.range n) (b := lkeys l) List.nodup_range fun x hx => lk_isSome.mp (h x (by simpa using hx))
  simpa using this
theorem IsHead.len {l : LKV} {xs : List Int} (z : IsHead l xs) : xs.length ≤ l.length := head_len fun i hi => by
  rw [z.1 i hi, List.getElem?_eq_getElem hi]; rfl
theorem IsHead.whole {l : LKV} {xs : List Int} {m : Nat} (z : IsHead l xs) (nd : (lkeys l).Nodup) (hm : ∀ q ∈ l, q.1 < m) : xs.length = m ↔ l.length = m := by
  have hl : l.length ≤ m := by
    have := sub_len (a := lkeys l) (b := List.range m) nd fun x hx => by
      obtain ⟨q, hq, rfl⟩ := List.mem_map.mp hx
      exact List.mem_range.mpr (hm q hq)
    simpa using this
  have h1 := z.len
  constructor
  · intro e; omega
  · intro e
    rcases Nat.lt_or_ge xs.length m with h | h
    · exfalso
      have hn := lk_none.mp z.2
      have := sub_len (a := xs.length :: lkeys l) (b := List.range m) (List.nodup_cons.mpr ⟨hn, nd⟩) fun x hx => by
        rcases List.mem_cons.mp hx with rfl | hx
        · exact List.mem_range.mpr h
        · obtain ⟨q, hq, rfl⟩ := List.mem_map.mp hx
          exact List.mem_range.mpr (hm q hq)
      simp at this
      omega
    · omega
abbrev GS := List (Nat × Nat) × Option Nat
def gstep (l : LKV) (s : GS) (i : Nat) : GS := if (lk l i).isSome = true then match s.2 with
    | some b => (s.1 ++ [(b, i)], none)
    | none => s
  else match s.2 with
    | some _ => s
    | none => (s.1, some i)
def gfold (l : LKV) (n : Nat) : GS := (List.range n).foldl (gstep l) ([], none)
theorem gfold_succ (l : LKV) (n : Nat) : gfold l (n + 1) = gstep l (gfold l n) n := by
  unfold gfold
  rw [List.range_succ, List.foldl_append]; rfl
def gaps (l : LKV) (n : Nat) : List (Nat × Nat) := match gfold l n with
  | (f, some b) => f ++ [(b, n)]
  | (f, none) => f
def prE (q : Nat × Nat) : EV := ptE q.1 q.2
theorem gfold_rg (l : LKV) (n : Nat) : (gfold l n).1.length ≤ n ∧ (∀ q ∈ (gfold l n).1, q.1 < n ∧ q.2 < n) ∧ ∀ b, (gfold l n).2 = some b → b < n := by
  induction n with
  | zero => exact ⟨Nat.le_refl _, fun q hq => by simp [gfold] at hq, fun b hb => by simp [gfold] at hb⟩
  | succ n ih =>
    obtain ⟨i1, i2, i3⟩ := ih
    rw [gfold_succ]
    generalize gfold l n = s at i1 i2 i3
    obtain ⟨f, b⟩ := s
    unfold gstep
    cases b with
    | none =>
      simp only
      split
      · exact ⟨Nat.le_succ_of_le i1, fun q hq => ⟨Nat.lt_succ_of_lt (i2 q hq).1, Nat.lt_succ_of_lt (i2 q hq).2⟩, fun b hb => nomatch hb⟩
      · refine ⟨Nat.le_succ_of_le i1, fun q hq => ⟨Nat.lt_succ_of_lt (i2 q hq).1, Nat.lt_succ_of_lt (i2 q hq).2⟩, fun b hb => ?_⟩
        cases hb
        exact Nat.lt_succ_self _
    | some b =>
      have hb := i3 b rfl
      simp only
      split
      · refine ⟨by simp at i1 ⊢; omega, fun q hq => ?_, fun b hb => nomatch hb⟩
        rcases List.mem_append.mp hq with z | z
        · exact ⟨Nat.lt_succ_of_lt (i2 q z).1, Nat.lt_succ_of_lt (i2 q z).2⟩
        · rw [List.mem_singleton.mp z]
          exact ⟨Nat.lt_succ_of_lt hb, Nat.lt_succ_self _⟩
      · refine ⟨Nat.le_succ_of_le i1, fun q hq => ⟨Nat.lt_succ_of_lt (i2 q hq).1, Nat.lt_succ_of_lt (i2 q hq).2⟩, fun b' hb' => ?_⟩
        cases hb'
        exact Nat.lt_succ_of_lt hb
theorem gaps_rg (l : LKV) (n : Nat) : (gaps l n).length ≤ n + 1 ∧ ∀ q ∈ gaps l n, q.1 ≤ n ∧ q.2 ≤ n := by
  obtain ⟨i1, i2, i3⟩ := gfold_rg l n
  unfold gaps
  generalize gfold l n = s at i1 i2 i3
  obtain ⟨f, b⟩ := s
  cases b with
  | none => exact ⟨by simp at i1 ⊢; omega, fun q hq => ⟨Nat.le_of_lt (i2 q hq).1, Nat.le_of_lt (i2 q hq).2⟩⟩
  | some b =>
    refine ⟨by simp at i1 ⊢; omega, fun q hq => ?_⟩
    rcases List.mem_append.mp hq with z | z
    · exact ⟨Nat.le_of_lt (i2 q z).1, Nat.le_of_lt (i2 q z).2⟩
    · rw [List.mem_singleton.mp z]
      exact ⟨Nat.le_of_lt (i3 b rfl), Nat.le_refl _⟩
def ltop (l : LKV) : Nat := l.foldr (fun q m => max (q.1 + 1) m) 0
theorem ltop_le {l : LKV} {m : Nat} : ltop l ≤ m ↔ ∀ q ∈ l, q.1 < m := by
  induction l with
  | nil => simp [ltop]
  | cons q l ih =>
    rw [ltop, List.foldr_cons, ← ltop, Nat.max_le, ih]
    simp only [List.mem_cons, forall_eq_or_imp]
    exact Iff.rfl
theorem ltop_mem (l : LKV) : l = [] ∧ ltop l = 0 ∨ ∃ q ∈ l, ltop l = q.1 + 1 := by
  induction l with
  | nil => exact .inl ⟨rfl, rfl⟩
  | cons q l ih =>
    right
    rw [ltop, List.foldr_cons, ← ltop]
    rcases Nat.le_total (q.1 + 1) (ltop l) with h | h
    · rw [Nat.max_eq_right h]
      rcases ih with ⟨rfl, e⟩ | ⟨r, hr, e⟩
      · rw [e] at h; omega
      · exact ⟨r, List.mem_cons_of_mem _ hr, e⟩
    · rw [Nat.max_eq_left h]
      exact ⟨q, List.mem_cons_self, rfl⟩
def Srt (l ys : LKV) : Prop := ys.Perm l ∧ (lkeys ys).Pairwise (· < ·)
theorem Srt.uniq {l l' ys zs : LKV} (p : l.Perm l') (a : Srt l ys) (b : Srt l' zs) : ys = zs := by
  have a2 := a.2
  have b2 := b.2
  rw [List.pairwise_map] at a2 b2
  exact List.Perm.eq_of_pairwise (le := fun a b => a.1 < b.1) (fun a b _ _ h1 h2 => absurd h1 (Nat.lt_asymm h2)) a2 b2 (a.1.trans (p.trans b.1.symm))
def lend (l : LKV) (n : Option Nat) : Nat := n.getD (ltop l)
def lEq (l l' : LKV) : Bool := l.length == l'.length && l.all fun q => decide (lk l' q.1 = some q.2)
def lnD (l : LKV) : List (L2.Key × PyData) := l.map fun q => (.inl (q.1 : Int), .int q.2)
theorem ln_find (l : LKV) (i : Nat) : ((lnD l).find? fun y => y.1 = .inl (i : Int)).map (·.2) = (lk l i).map PyData.int := by
  induction l with
  | nil => rfl
  | cons q l ih =>
    unfold lnD at ih ⊢
    rw [List.map_cons, List.find?_cons, lk_cons]
    by_cases e : q.1 = i
    · simp [e]
    · have e2 : ¬ (q.1 : Int) = i := by omega
      simp only [Sum.inl.injEq, e2, decide_false, if_neg e]
      exact ih
theorem ln_dEq (l l' : LKV) : dEq (lnD l) (lnD l') = lEq l l' := by
  unfold dEq lEq
  have h1 : (lnD l).length = l.length := by simp [lnD]
  have h2 : (lnD l').length = l'.length := by simp [lnD]
  rw [h1, h2]
  congr 1
  unfold lnD
  rw [List.all_map]
  refine List.all_congr rfl fun q => ?_
  simp only [Function.comp]
  have := ln_find l' q.1
  unfold lnD at this
  rw [this]
  cases lk l' q.1 with
  | none => simp
  | some y =>
    simp only [Option.map_some, PyData.eqv, Option.some.injEq]
    exact decide_eq_decide.mpr ⟨fun z => z.symm, fun z => z.symm⟩
theorem ln_dkv {h : EH} (l : LKV) : DKV h (lnKV l) (lnD l) := by
  unfold lnKV lnD
  induction l with
  | nil => exact .nil
  | cons q l ih => exact .int (.int _) (by simp [flatD]) ih
theorem lEq_perm {l l' : LKV} (nd : (lkeys l).Nodup) (p : l'.Perm l) : lEq l l' = true := by
  unfold lEq
  rw [Bool.and_eq_true]
  refine ⟨by simp [p.length_eq], List.all_eq_true.mpr fun q hq => decide_eq_true ?_⟩
  have nd' : (lkeys l').Nodup := ((p.map (·.1)).nodup_iff).mpr nd
  exact (lk_mem nd').mp (p.mem_iff.mpr hq)
end Y

namespace Y
open PySem PySem.Spec PyProof.Rows L2

theorem while_ind {c : LTt} {tb : LS} {D : LEnds} (M : Nat → En → EH → Prop)
    (step : ∀ n env h (kk : En → EH → Prop), M n env h → (∀ k env' h', k < n → M k env' h' → kk env' h') → c env h fun b h1 => if b = true then tb { D with nx := kk, ct := kk, bk := D.nx } env h1 else D.nx env h1) :
    ∀ fuel n env h, n < fuel → M n env h → whileE c tb D fuel env h
  | 0, _, _, _, l, _ => absurd l (Nat.not_lt_zero _)
  | f + 1, n, env, h, l, m => by
    rw [whileE]
    exact step n env h _ m fun k e h' hk mk => while_ind M step f k e h' (by omega) mk
theorem numE_nil (k : Int) : numE [] k = [] := rfl
theorem numE_cons (x : EV) (xs : List EV) (k : Int) : numE (x :: xs) k = .tup [.int k, x] :: numE xs (k + 1) := by
  unfold numE
  rw [List.length_cons, List.range_succ_eq_map, List.zipWith_cons_cons]
  congr 1
  · simp
  · rw [List.zipWith_map_left]
    congr 1
    funext i x
    simp
    omega
theorem loop_numS {α : Type} (f : α → EV) {g : EH → Prop} {p : Pat} {tb : LS} {D : LEnds} (xs : List α) (k0 : Nat) (I : List α → Nat → En → EH → Prop)
    (stop : ∀ env h, I [] (k0 + xs.length) env h → g h ∧ D.nx env h)
    (turn : ∀ x b i env h (k : En → EH → Prop), i + (b.length + 1) = k0 + xs.length → I (x :: b) i env h → (∀ env' h', I b (i + 1) env' h' → k env' h') → g h ∧ lBind h p (.tup [.int (i : Nat), f x]) env fun env2 => tb { D with nx := k, ct := k, bk := D.nx } env2 h) :
    ∀ env h, I xs k0 env h → loopE g p tb D (numE (xs.map f) (k0 : Nat)) env h := by
  intro env h i0
  refine loop_ind (fun left env h => ∃ (b : List α) (i : Nat), left = numE (b.map f) (i : Nat) ∧ i + b.length = k0 + xs.length ∧ I b i env h) ?_ ?_ _ _ _ ⟨xs, k0, rfl, rfl, i0⟩
  · rintro env h ⟨b, i, el, ei, z⟩
    have hb : b = [] := by
      cases b with
      | nil => rfl
      | cons x b => rw [List.map_cons, numE_cons] at el; cases el
    subst hb
    simp only [List.length_nil, Nat.add_zero] at ei
    subst ei
    exact stop env h z
  · rintro y left env h k ⟨b, i, el, ei, z⟩ hk
    cases b with
    | nil => rw [List.map_nil, numE_nil] at el; cases el
    | cons x b =>
      rw [List.map_cons, numE_cons, List.cons.injEq] at el
      obtain ⟨rfl, rfl⟩ := el
      rw [List.length_cons] at ei
      exact turn x b i env h k ei z fun env' h' z' => hk env' h' ⟨b, i + 1, by simp, by omega, z'⟩
theorem lock_back {h h' : EH} {r : Nat} {kvs : List (EV × EV)} {od : Obj} {l0 : List (L2.Key × V)} (e : h[r]? = some (.dic kvs)) (k : Keep no1 (h.set r (.dlk od l0 kvs)) h') : h'[r]? = some (.dlk od l0 kvs) ∧ Keep no1 h (h'.set r (.dic kvs)) := by
  have d0 := set_at (o := EO.dlk od l0 kvs) e
  refine ⟨k.at d0, by simpa using k.1, fun x o hx _ => ?_⟩
  by_cases ex : x = r
  · subst ex
    rw [e] at hx
    cases hx
    exact set_at (k.at d0)
  · rw [List.getElem?_set_ne (fun z => ex z.symm)]
    exact k.at (set_off hx ex)
theorem ln_keys (l : LKV) : (lnKV l).map (·.1) = (lkeys l).map fun (i : Nat) => EV.int i := by
  unfold lnKV
  rw [List.map_map, List.map_map]; rfl
theorem lock_lc {h : EH} {d : Nat} {l : LKV} {env : En} {P : EK} {te : LT} {tt : LTt} {tel : LT} {j : Nat} (vs : List Nat) (e : h[d]? = some (.dic (lnKV l))) (hl : l.length ≤ 1000000) (f : Nat → Option EV)
    (he : ∀ od l0 (P : EK), P (.ref d) (h.set d (.dlk od l0 (lnKV l))) → te env (h.set d (.dlk od l0 (lnKV l))) P)
    (step : ∀ q ∈ l, ∀ (h1 : EH) (ky : EK) (kn : EH → Prop), (∀ y, f q.1 = some y → ky y h1) → (f q.1 = none → kn h1) → tt ((wipeE env vs).set j (some (.int (q.1 : Nat)))) h1 fun b h3 => if b = true then tel ((wipeE env vs).set j (some (.int (q.1 : Nat)))) h3 ky else kn h3)
    (fin : ∀ h', Keep no1 h h' → h.length < h'.length → h'[h.length]? = some (.lst ((lkeys l).filterMap f)) → P (.ref h.length) h') :
    lLockE (lLc (lKeys te) (.nm j) tt tel vs) env h P := by
  refine ⟨d, _, e, fun od l0 => ?_⟩
  have d0 := set_at (o := EO.dlk od l0 (lnKV l)) e
  have hd := lt_of_at e
  have hlen : (h.set d (.dlk od l0 (lnKV l))).length = h.length := by simp
  unfold lLc lKeys
  refine he od l0 _ ?_
  simp only [d0]
  have fm : ((lnKV l).map (·.1)).filterMap (fun v => match v with | .int i => f i.toNat | _ => none) = (lkeys l).filterMap f := by
    rw [ln_keys, List.filterMap_map]
    rfl
  refine lc_plain (fun v => match v with | .int i => f i.toNat | _ => none) _ (by rw [List.length_map, sizeL]; simp [lnKV]; omega) (fun acc => app_at d0 _) (fun x hx acc ky kn hy hn => ?_) ?_
  · rw [ln_keys] at hx
    obtain ⟨i, hi, rfl⟩ := List.mem_map.mp hx
    obtain ⟨q, hq, rfl⟩ := List.mem_map.mp hi
    refine bind_nm ?_
    exact step q hq _ ky kn hy hn
  · rw [fm]
    refine ⟨app_at d0 _, ?_⟩
    rw [hlen]
    have kk := (lock_back (od := od) (l0 := l0) (h' := h.set d (.dlk od l0 (lnKV l)) ++ [.lst ((lkeys l).filterMap f)]) e (Keep.app _)).2
    refine fin _ kk (by simp) ?_
    rw [List.getElem?_set_ne (by omega)]
    have := new_at (h := h.set d (.dlk od l0 (lnKV l))) (o := EO.lst ((lkeys l).filterMap f))
    rwa [hlen] at this
def sp_runs_without (ad : Ad) : LSp := fun evs h Q => ∃ (d n : Nat) (l : LKV), evs = [.ref d, .int n] ∧ h[d]? = some (.dic (lnKV l)) ∧ n ≤ 2000 ∧ ∀ h', Keep no1 h h' → Q (.tup ((gaps l n).map prE)) h'
def sp_Lane___init__ (ad : Ad) : LSp := fun evs h Q => ∃ p, evs = [.ref p] ∧ h[p]? = some (.slo ad.a_Lane []) ∧ ∀ d h', Keep (is1 p) h h' → h.length ≤ d → LaneAt ad h' p d [] none → Q .non h'
def sp_Lane___eq__ (ad : Ad) : LSp := fun evs h Q => ∃ p d l n w, evs = [.ref p, w] ∧ LaneAt ad h p d l n ∧
  ((∃ p2 d2 l2 n2, w = .ref p2 ∧ LaneAt ad h p2 d2 l2 n2 ∧ Q (.bl (lEq l l2 && decide (n = n2))) h) ∨ (clsE w h = none ∧ (∃ t, tyE w h = some t) ∧ Q (.bl false) h))
def sp_Lane_head (ad : Ad) : LSp := fun evs h Q => ∃ p d l n, evs = [.ref p] ∧ LaneAt ad h p d l n ∧ l.length ≤ 1000 ∧ ∀ xs h', IsHead l xs → Keep no1 h h' → Q (tx xs) h'
def sp_Lane_told_length (ad : Ad) : LSp := fun evs h Q => ∃ p d l n, evs = [.ref p] ∧ LaneAt ad h p d l n ∧ Q (lnE n) h
def sp_Lane_known (ad : Ad) : LSp := fun evs h Q => ∃ p d l n, evs = [.ref p] ∧ LaneAt ad h p d l n ∧ (lkeys l).Nodup ∧ l.length < 64 ∧ ∀ ys r h', Srt l ys → Keep no1 h h' → h.length ≤ r → h'[r]? = some (.dic (lnKV ys)) → Q (.ref r) h'
def sp_Lane_gaps (ad : Ad) : LSp := fun evs h Q => ∃ p d l n, evs = [.ref p] ∧ LaneAt ad h p d l n ∧ LOk l n ∧ ∀ h', Keep no1 h h' → Q (.tup ((gaps l (lend l n)).map prE)) h'
def sp_Lane_is_whole (ad : Ad) : LSp := fun evs h Q => ∃ p d l n, evs = [.ref p] ∧ LaneAt ad h p d l n ∧ Q (.bl (decide (n = some l.length))) h
def sp_Lane_twin (ad : Ad) : LSp := fun evs h Q => ∃ p d l n, evs = [.ref p] ∧ LaneAt ad h p d l n ∧ ∀ p2 d2 h', Keep no1 h h' → h.length ≤ p2 → h.length ≤ d2 → LaneAt ad h' p2 d2 l n → Q (.ref p2) h'
abbrev N_runs_without : List Str := ["letters", "end", "found", "begin", "place"]
def t_runs_without (ad : Ad) : LS :=
    lSeq (lPar 2 3 (lCons (lLst (lNil)) (lCons (lC .non) (lNil)))) <|
    lSeq (lFor (lRng1 (lCons (lVar 1) (lNil))) (.nm 4)
      (lIfS (lAnd (lB (lOp (inA false) (lVar 4) (lVar 0))) (lB (lOp (isN true) (lVar 3) (lC .non))))
      (lSeq (lDrop (lBM "list" appendE (lVar 2) (lCons (lTup (lCons (lVar 3) (lCons (lVar 4) (lNil)))) (lNil)))) <|
    lSet (lC .non) 3)
      (lIfS (lAnd (lB (lOp (inA true) (lVar 4) (lVar 0))) (lB (lOp (isN false) (lVar 3) (lC .non))))
      (lSet (lVar 4) 3)
      (lNext)))) <|
    lRet (lIf (lB (lOp (isN true) (lVar 3) (lC .non))) (lTup (lStar (lVar 2) (lCons (lTup (lCons (lVar 3) (lCons (lVar 1) (lNil)))) (lNil)))) (lCB tupleOf (lCons (lVar 2) (lNil))))
abbrev N_Lane___init__ : List Str := ["self"]
def t_Lane___init__ (ad : Ad) : LS :=
    lSetAt2 [(ad.a_Lane, 1)] [(ad.a_Lane, 0)] (lVar 0) (lVar 0) (lTup (lCons (lDnew) (lCons (lC .non) (lNil))))
abbrev N_Lane___eq__ : List Str := ["self", "other"]
def t_Lane___eq__ (ad : Ad) : LS :=
    lSeq (lIfS (lNot (lT (lCB (isiC ad.a_Lane [(ad.a_Lane, true)]) (lCons (lVar 1) (lCons (lC (.adr ad.a_Lane)) (lNil))))))
      (lRet (lC (.bl false)))
      (lNext)) <|
    lRet (lAndV (lOp (eqX false) (lAttr [(ad.a_Lane, 1)] (lVar 0)) (lAttr [(ad.a_Lane, 1)] (lVar 1))) (lOp (eqX false) (lAttr [(ad.a_Lane, 0)] (lVar 0)) (lAttr [(ad.a_Lane, 0)] (lVar 1))))
abbrev N_Lane_head : List Str := ["self", "found"]
def t_Lane_head (ad : Ad) : LS :=
    lSeq (lSet (lLst (lNil)) 1) <|
    lSeq (lWhile (lB (lOp (inA false) (lCB lenE (lCons (lVar 1) (lNil))) (lAttr [(ad.a_Lane, 1)] (lVar 0))))
      (lDrop (lBM "list" appendE (lVar 1) (lCons (lOp ixA (lAttr [(ad.a_Lane, 1)] (lVar 0)) (lCB lenE (lCons (lVar 1) (lNil)))) (lNil))))) <|
    lRet (lCB tupleOf (lCons (lVar 1) (lNil)))
abbrev N_Lane_told_length : List Str := ["self"]
def t_Lane_told_length (ad : Ad) : LS :=
    lRet (lAttr [(ad.a_Lane, 0)] (lVar 0))
abbrev N_Lane_known : List Str := ["self", "place"]
def t_Lane_known (ad : Ad) : LS :=
    lRet (lDc (lIt (lCB sortE (lCons (lAttr [(ad.a_Lane, 1)] (lVar 0)) (lNil)))) (.nm 1) (lYes) (lVar 1) (lOp ixA (lAttr [(ad.a_Lane, 1)] (lVar 0)) (lVar 1)) [1])
abbrev N_Lane_gaps : List Str := ["self", "end", "place"]
def t_Lane_gaps (ad : Ad) : LS :=
    lSeq (lSet (lCB maxE (lCons (lLst (lCons (lC (.int 0)) (lStar (lLockE (lLc (lKeys (lAttr [(ad.a_Lane, 1)] (lVar 0))) (.nm 2) (lYes) (lOp addE (lVar 2) (lC (.int 1))) [2])) (lNil)))) (lNil))) 1) <|
    lRet (lCall (sp_runs_without ad) (lCons (lAttr [(ad.a_Lane, 1)] (lVar 0)) (lCons (lIf (lB (lOp (isN false) (lAttr [(ad.a_Lane, 0)] (lVar 0)) (lC .non))) (lVar 1) (lAttr [(ad.a_Lane, 0)] (lVar 0))) (lNil))))
abbrev N_Lane_is_whole : List Str := ["self"]
def t_Lane_is_whole (ad : Ad) : LS :=
    lRet (lAndV (lOp (isN true) (lAttr [(ad.a_Lane, 0)] (lVar 0)) (lC .non)) (lOp (eqE false) (lCB lenE (lCons (lAttr [(ad.a_Lane, 1)] (lVar 0)) (lNil))) (lAttr [(ad.a_Lane, 0)] (lVar 0))))
abbrev N_Lane_twin : List Str := ["self", "found"]
def t_Lane_twin (ad : Ad) : LS :=
    lSeq (lSet (lMake ad.a_Lane (sp_Lane___init__ ad) lNil) 1) <|
    lSeq (lSetAt2 [(ad.a_Lane, 1)] [(ad.a_Lane, 0)] (lVar 1) (lVar 1) (lTup (lCons (lCB dcopyE (lCons (lAttr [(ad.a_Lane, 1)] (lVar 0)) (lNil))) (lCons (lAttr [(ad.a_Lane, 0)] (lVar 0)) (lNil))))) <|
    lRet (lVar 1)
theorem len_runs_without (ad : Ad) (evs : List EV) (h : EH) (Q : EK) (q : sp_runs_without ad evs h Q) : evs.length = ["letters", "end"].length := by
  obtain ⟨_, _, _, rfl, _⟩ := q; rfl
theorem len_Lane___init__ (ad : Ad) (evs : List EV) (h : EH) (Q : EK) (q : sp_Lane___init__ ad evs h Q) : evs.length = ["self"].length := by
  obtain ⟨_, rfl, _⟩ := q; rfl
theorem len_Lane___eq__ (ad : Ad) (evs : List EV) (h : EH) (Q : EK) (q : sp_Lane___eq__ ad evs h Q) : evs.length = ["self", "other"].length := by
  obtain ⟨_, _, _, _, _, rfl, _⟩ := q; rfl
theorem len_Lane_head (ad : Ad) (evs : List EV) (h : EH) (Q : EK) (q : sp_Lane_head ad evs h Q) : evs.length = ["self"].length := by
  obtain ⟨_, _, _, _, rfl, _⟩ := q; rfl
theorem len_Lane_told_length (ad : Ad) (evs : List EV) (h : EH) (Q : EK) (q : sp_Lane_told_length ad evs h Q) : evs.length = ["self"].length := by
  obtain ⟨_, _, _, _, rfl, _⟩ := q; rfl
theorem len_Lane_known (ad : Ad) (evs : List EV) (h : EH) (Q : EK) (q : sp_Lane_known ad evs h Q) : evs.length = ["self"].length := by
  obtain ⟨_, _, _, _, rfl, _⟩ := q; rfl
theorem len_Lane_gaps (ad : Ad) (evs : List EV) (h : EH) (Q : EK) (q : sp_Lane_gaps ad evs h Q) : evs.length = ["self"].length := by
  obtain ⟨_, _, _, _, rfl, _⟩ := q; rfl
theorem len_Lane_is_whole (ad : Ad) (evs : List EV) (h : EH) (Q : EK) (q : sp_Lane_is_whole ad evs h Q) : evs.length = ["self"].length := by
  obtain ⟨_, _, _, _, rfl, _⟩ := q; rfl
theorem len_Lane_twin (ad : Ad) (evs : List EV) (h : EH) (Q : EK) (q : sp_Lane_twin ad evs h Q) : evs.length = ["self"].length := by
  obtain ⟨_, _, _, _, rfl, _⟩ := q; rfl
theorem pure_Lane_told_length (ad : Ad) (evs : List EV) (h : EH) (Q : EK) (q : sp_Lane_told_length ad evs h Q) : t_Lane_told_length ad (endsOf Q) (startE N_Lane_told_length evs) h := by
  obtain ⟨p, d, l, n, rfl, z, q⟩ := q
  show t_Lane_told_length ad (endsOf Q) [some (.ref p)] h
  simp [t_Lane_told_length, lSeq, lSet, lRet, lRetN, lDrop, lIfS, lOp, lVar, lC, lB, lT, lAnd, lOr, lNot, lIf, lAndV, lOrV, lNotV, lNil, lCons, lTup, lLst, lCB, lBM, lSl, lPart, lNext, lFor, lIt, lRng1, lRng2, lAsg, lPar, lSetI, lSetA, lAugS, lLc, lZip, lNeg, lCall, lChain, List.getElem?_cons_zero, List.getElem?_cons_succ, List.set_cons_zero, List.set_cons_succ, truE, wipeE, intP, intE, lBind, Pat.bind, Pat.binds, eqE, geE, gtE, leE, ltE, intP, intE, addE, subE, lenE, ixA, ixE, isN, absE, intOf, isTy, attrE, atI_n, atI_0, atI_1, atI_2, atI_3, lYes, z.o, lAttr] at q ⊢
  exact q
theorem pure_Lane_is_whole (ad : Ad) (evs : List EV) (h : EH) (Q : EK) (q : sp_Lane_is_whole ad evs h Q) : t_Lane_is_whole ad (endsOf Q) (startE N_Lane_is_whole evs) h := by
  obtain ⟨p, d, l, n, rfl, z, q⟩ := q
  show t_Lane_is_whole ad (endsOf Q) [some (.ref p)] h
  have hl : (lnKV l).length = l.length := by simp [lnKV]
  cases n with
  | none => simp [t_Lane_is_whole, lSeq, lSet, lRet, lRetN, lDrop, lIfS, lOp, lVar, lC, lB, lT, lAnd, lOr, lNot, lIf, lAndV, lOrV, lNotV, lNil, lCons, lTup, lLst, lCB, lBM, lSl, lPart, lNext, lFor, lIt, lRng1, lRng2, lAsg, lPar, lSetI, lSetA, lAugS, lLc, lZip, lNeg, lCall, lChain, List.getElem?_cons_zero, List.getElem?_cons_succ, List.set_cons_zero, List.set_cons_succ, truE, wipeE, intP, intE, lBind, Pat.bind, Pat.binds, eqE, geE, gtE, leE, ltE, intP, intE, addE, subE, lenE, ixA, ixE, isN, absE, intOf, isTy, attrE, atI_n, atI_0, atI_1, atI_2, atI_3, lYes, z.o, z.d, lAttr, lnE] at q ⊢; exact q
  | some m =>
    have e : ((l.length : Int) = m) = (m = l.length) := propext ⟨fun h => by omega, fun h => by omega⟩
    simp [t_Lane_is_whole, lSeq, lSet, lRet, lRetN, lDrop, lIfS, lOp, lVar, lC, lB, lT, lAnd, lOr, lNot, lIf, lAndV, lOrV, lNotV, lNil, lCons, lTup, lLst, lCB, lBM, lSl, lPart, lNext, lFor, lIt, lRng1, lRng2, lAsg, lPar, lSetI, lSetA, lAugS, lLc, lZip, lNeg, lCall, lChain, List.getElem?_cons_zero, List.getElem?_cons_succ, List.set_cons_zero, List.set_cons_succ, truE, wipeE, intP, intE, lBind, Pat.bind, Pat.binds, eqE, geE, gtE, leE, ltE, intP, intE, addE, subE, lenE, ixA, ixE, isN, absE, intOf, isTy, attrE, atI_n, atI_0, atI_1, atI_2, atI_3, lYes, z.o, z.d, lAttr, lnE, hl, e] at q ⊢
    exact q
theorem pure_Lane___init__ (ad : Ad) (evs : List EV) (h : EH) (Q : EK) (q : sp_Lane___init__ ad evs h Q) : t_Lane___init__ ad (endsOf Q) (startE N_Lane___init__ evs) h := by
  obtain ⟨p, rfl, e, q⟩ := q
  show t_Lane___init__ ad (endsOf Q) [some (.ref p)] h
  have e1 := app_at e [EO.dic []]
  have e2 := set_at (o := EO.slo ad.a_Lane (putO 1 (.ref h.length) [])) e1
  have hp := lt_of_at e
  have q' := q h.length (((h ++ [EO.dic []]).set p (.slo ad.a_Lane (putO 1 (.ref h.length) []))).set p (.slo ad.a_Lane (putO 0 .non (putO 1 (.ref h.length) [])))) ((Keep.app _).trans ((Keep.set (show is1 p p from rfl)).trans (Keep.set (show is1 p p from rfl)))) (Nat.le_refl _) ⟨by rw [set_at e2]; rfl, set_off (set_off (o := EO.slo ad.a_Lane (putO 1 (.ref h.length) [])) (b := p) (new_at (h := h) (o := EO.dic [])) (by omega)) (by omega)⟩
  simp only [t_Lane___init__, lSeq, lSet, lRet, lRetN, lDrop, lIfS, lOp, lVar, lC, lB, lT, lAnd, lOr, lNot, lIf, lAndV, lOrV, lNotV, lNil, lCons, lTup, lLst, lCB, lBM, lSl, lPart, lNext, lFor, lIt, lRng1, lRng2, lAsg, lPar, lSetI, lSetA, lAugS, lLc, lZip, lNeg, lCall, lChain, List.getElem?_cons_zero, List.getElem?_cons_succ, List.set_cons_zero, List.set_cons_succ, truE, wipeE, intP, intE, lSetAt2, lDnew, putAt, e1, e2, List.lookup_cons, beq_self_eq_true]
  exact ⟨by simp [sizeL], q'⟩
theorem lnE_eq {neg : Bool} {n m : Option Nat} {h : EH} {P : EK} (p : P (.bl (neg ^^ decide (n = m))) h) : eqE neg (lnE n) (lnE m) h P := by
  cases n <;> cases m
  · exact ⟨.none, .none, .non, .non, by simpa [PyData.eqv] using p⟩
  · exact ⟨.none, _, .non, .int _, by simpa [PyData.eqv] using p⟩
  · exact ⟨_, .none, .int _, .non, by simpa [PyData.eqv] using p⟩
  · rename_i a b
    refine eq_i ?_
    have : decide ((a : Int) = b) = decide (some a = some b) := decide_eq_decide.mpr ⟨fun z => by simp; omega, fun z => by simp at z; omega⟩
    rw [this]; exact p
theorem pure_Lane___eq__ (ad : Ad) (evs : List EV) (h : EH) (Q : EK) (q : sp_Lane___eq__ ad evs h Q) : t_Lane___eq__ ad (endsOf Q) (startE N_Lane___eq__ evs) h := by
  obtain ⟨p, d, l, n, w, rfl, z, q⟩ := q
  show t_Lane___eq__ ad (endsOf Q) [some (.ref p), some w] h
  simp only [t_Lane___eq__, lSeq, lSet, lRet, lRetN, lDrop, lIfS, lOp, lVar, lC, lB, lT, lAnd, lOr, lNot, lIf, lAndV, lOrV, lNotV, lNil, lCons, lTup, lLst, lCB, lBM, lSl, lPart, lNext, lFor, lIt, lRng1, lRng2, lAsg, lPar, lSetI, lSetA, lAugS, lLc, lZip, lNeg, lCall, lChain, List.getElem?_cons_zero, List.getElem?_cons_succ, List.set_cons_zero, List.set_cons_succ, truE, wipeE, intP, intE, lT, isiC]
  refine ⟨trivial, ?_⟩
  rcases q with ⟨p2, d2, l2, n2, rfl, z2, q⟩ | ⟨hc, ⟨t, ht⟩, q⟩
  · simp only [lSeq, lSet, lRet, lRetN, lDrop, lIfS, lOp, lVar, lC, lB, lT, lAnd, lOr, lNot, lIf, lAndV, lOrV, lNotV, lNil, lCons, lTup, lLst, lCB, lBM, lSl, lPart, lNext, lFor, lIt, lRng1, lRng2, lAsg, lPar, lSetI, lSetA, lAugS, lLc, lZip, lNeg, lCall, lChain, List.getElem?_cons_zero, List.getElem?_cons_succ, List.set_cons_zero, List.set_cons_succ, truE, wipeE, intP, intE, clsE, z2.o, List.lookup_cons, beq_self_eq_true, truE, Bool.not_true, Bool.false_eq_true, if_false, lAttr, attrE, z.o, List.getElem?_cons_succ, List.getElem?_cons_zero]
    refine .inr (.inl ⟨_, _, _, _, _, _, rfl, rfl, z.d, z2.d, ln_dkv l, ln_dkv l2, ?_⟩)
    rw [ln_dEq]
    simp only [Bool.false_xor]
    cases hE : lEq l l2
    · rw [hE] at q
      simpa using q
    · rw [hE] at q
      simp only [if_true, z.o, z2.o, List.lookup_cons, beq_self_eq_true, List.getElem?_cons_succ, List.getElem?_cons_zero]
      refine .inl (lnE_eq ?_)
      simpa using q
  · simp only [hc, ht, truE, Bool.not_false, if_true]
    exact q
theorem pure_Lane_head (ad : Ad) (evs : List EV) (h : EH) (Q : EK) (q : sp_Lane_head ad evs h Q) : t_Lane_head ad (endsOf Q) (startE N_Lane_head evs) h := by
  obtain ⟨p, d, l, n, rfl, z, hl, q⟩ := q
  show t_Lane_head ad (endsOf Q) [some (.ref p), none] h
  unfold t_Lane_head
  rw [lSeq, lSet]
  simp only [lSet, lRet, lRetN, lDrop, lOp, lVar, lC, lB, lT, lAnd, lOr, lNot, lIf, lAndV, lOrV, lNotV, lNil, lCons, lTup, lLst, lCB, lBM, lSl, lPart, lNext, lIt, lRng1, lRng2, lAsg, lPar, lSetI, lSetA, lAugS, lLc, lZip, lNeg, lCall, lChain, List.getElem?_cons_zero, List.getElem?_cons_succ, List.set_cons_zero, List.set_cons_succ, wipeE, intP, intE, List.length_nil]
  refine ⟨by rw [sizeL]; decide, ?_⟩
  rw [lSeq, lWhile]
  refine ⟨l.length + 1, ?_⟩
  refine while_ind (fun k env h' => ∃ xs : List Int, env = [some (.ref p), some (.ref h.length)] ∧ Keep no1 h h' ∧ h'[h.length]? = some (.lst (xs.map EV.int)) ∧ (∀ i, i < xs.length → lk l i = xs[i]?) ∧ xs.length + k = l.length) ?_ _ l.length _ _ (Nat.lt_succ_self _) ⟨[], rfl, Keep.app _, new_at, fun i hi => absurd hi (Nat.not_lt_zero _), by simp⟩
  rintro k env h' kk ⟨xs, rfl, kp, e1, hx, hk⟩ step
  have z' := z.keep kp
  simp only [lSet, lRet, lRetN, lDrop, lOp, lVar, lC, lB, lT, lAnd, lOr, lNot, lIf, lAndV, lOrV, lNotV, lNil, lCons, lTup, lLst, lCB, lBM, lSl, lPart, lNext, lIt, lRng1, lRng2, lAsg, lPar, lSetI, lSetA, lAugS, lLc, lZip, lNeg, lCall, lChain, List.getElem?_cons_zero, List.getElem?_cons_succ, List.set_cons_zero, List.set_cons_succ, wipeE, intP, intE, lenE, e1, lAttr, attrE, z'.o, List.lookup_cons, beq_self_eq_true, List.length_map]
  unfold inA
  simp only [z'.d]
  refine ⟨trivial, ?_⟩
  rw [ln_has]
  cases hk2 : lk l xs.length with
  | none =>
    simp only [Option.isSome_none, Bool.false_xor, Bool.false_eq_true, if_false, tupleOf, e1]
    exact q xs h' ⟨hx, hk2⟩ kp
  | some x =>
    simp only [Option.isSome_some, Bool.false_xor, if_true]
    refine ⟨isTy_l e1, ?_⟩
    simp only [e1, z'.o, List.lookup_cons, beq_self_eq_true, List.length_map, List.getElem?_cons_succ, List.getElem?_cons_zero]
    refine ia_d z'.d trivial (x := .int x) (by rw [ln_get, hk2]; rfl) ?_
    have hlt : xs.length + 1 ≤ l.length := head_len fun i hi => by
      by_cases c : i < xs.length
      · rw [hx i c, List.getElem?_eq_getElem c]; rfl
      · have : i = xs.length := by omega
        rw [this, hk2]; rfl
    refine app_f e1 (by rw [List.length_map, sizeL]; omega) ?_
    refine step (k - 1) _ _ (by omega) ⟨xs ++ [x], rfl, kp.fresh (Nat.le_refl _), ?_, fun i hi => ?_, by simp; omega⟩
    · rw [set_at e1, List.map_append]; rfl
    · by_cases c : i < xs.length
      · rw [List.getElem?_append_left c]; exact hx i c
      · have : i = xs.length := by simp at hi; omega
        subst this
        simp [hk2]
theorem srt_of {l : LKV} (nd : (lkeys l).Nodup) {ys : List Int} (p : ys.Perm ((lkeys l).map fun (i : Nat) => (i : Int))) (s : ys.Pairwise (· ≤ ·)) : ∃ zs : LKV, Srt l zs ∧ ys = (lkeys zs).map fun (i : Nat) => (i : Int) := by
  have pm := List.mergeSort_perm l fun a b => decide (a.1 ≤ b.1)
  have sm : (l.mergeSort fun a b => decide (a.1 ≤ b.1)).Pairwise fun a b => a.1 ≤ b.1 := by
    have := List.pairwise_mergeSort (le := fun (a b : Nat × Int) => decide (a.1 ≤ b.1)) (fun a b c => by simp only [decide_eq_true_eq]; omega) (fun a b => by simp only [Bool.or_eq_true, decide_eq_true_eq]; omega) l
    exact this.imp fun h => by simpa using h
  refine ⟨l.mergeSort fun a b => decide (a.1 ≤ b.1), ⟨pm, ?_⟩, ?_⟩
  · have nd2 : (lkeys (l.mergeSort fun a b => decide (a.1 ≤ b.1))).Nodup := ((pm.map (·.1)).nodup_iff).mpr nd
    have sm2 : (lkeys (l.mergeSort fun a b => decide (a.1 ≤ b.1))).Pairwise (· ≤ ·) := List.pairwise_map.mpr sm
    have := List.pairwise_and_iff.mpr ⟨sm2, nd2⟩
    exact this.imp fun h => Nat.lt_of_le_of_ne h.1 h.2
  · refine List.Perm.eq_of_pairwise (le := (· ≤ ·)) (fun a b _ _ h1 h2 => Int.le_antisymm h1 h2) s ?_ (p.trans ((pm.map (·.1)).map _).symm)
    rw [List.map_map, List.pairwise_map]
    exact sm.imp fun h => by simp only [Function.comp]; omega
theorem dc_ln {g : EH → Prop} {p : Pat} {tt : LTt} {tk tv : LT} {env : En} {P : EK} {h : EH} (zs : LKV) (nd : (lkeys zs).Nodup) (hl : zs.length ≤ 1000000) (hg : ∀ acc, g (h ++ [.dic acc]))
    (step : ∀ q ∈ zs, ∀ acc (ky : EV → EV → EH → Prop) (kn : EH → Prop), ky (.int (q.1 : Nat)) (.int q.2) (h ++ [.dic acc]) →
      lBind (h ++ [.dic acc]) p (.int (q.1 : Nat)) env fun env2 => tt env2 (h ++ [.dic acc]) fun b h3 => if b = true then tk env2 h3 fun y h4 => tv env2 h4 fun z h5 => ky y z h5 else kn h3)
    (fin : P (.ref h.length) (h ++ [.dic (lnKV zs)])) : dcE g p tt tk tv h.length env P ((lkeys zs).map fun (i : Nat) => EV.int i) (h ++ [.dic []]) := by
  have key : ∀ ys (acc : LKV), acc ++ ys = zs → dcE g p tt tk tv h.length env P ((lkeys ys).map fun (i : Nat) => EV.int i) (h ++ [.dic (lnKV acc)]) := by
    intro ys
    induction ys with
    | nil =>
      intro acc e
      show dcE _ _ _ _ _ _ _ _ [] _
      rw [dcE]
      rw [List.append_nil] at e
      exact ⟨hg _, by rw [e]; exact fin⟩
    | cons x ys ih =>
      intro acc e
      show dcE _ _ _ _ _ _ _ _ (EV.int (x.1 : Nat) :: (lkeys ys).map fun (i : Nat) => EV.int i) _
      rw [dcE]
      refine ⟨hg _, step x (by rw [← e]; simp) _ _ _ ?_⟩
      simp only [new_at, new_set]
      have hz := congrArg List.length e
      simp only [List.length_append, List.length_cons] at hz
      refine ⟨trivial, by rw [sizeL]; simp [lnKV]; omega, ?_⟩
      have hk : lput acc x.1 x.2 = acc ++ [x] := by
        unfold lput
        rw [if_neg]
        rw [lk_isSome]
        intro z
        rw [← e] at nd
        simp only [List.map_append, List.map_cons] at nd
        rw [List.nodup_append] at nd
        exact nd.2.2 _ z x.1 (by simp) rfl
      rw [ln_put, hk]
      exact ih _ (by rw [← e]; simp)
  exact key zs [] rfl
theorem pure_Lane_known (ad : Ad) (evs : List EV) (h : EH) (Q : EK) (q : sp_Lane_known ad evs h Q) : t_Lane_known ad (endsOf Q) (startE N_Lane_known evs) h := by
  obtain ⟨p, d, l, n, rfl, z, nd, hl, q⟩ := q
  show t_Lane_known ad (endsOf Q) [some (.ref p), none] h
  simp only [t_Lane_known, lSeq, lSet, lRet, lRetN, lDrop, lIfS, lOp, lVar, lC, lB, lT, lAnd, lOr, lNot, lIf, lAndV, lOrV, lNotV, lNil, lCons, lTup, lLst, lCB, lBM, lSl, lPart, lNext, lFor, lIt, lRng1, lRng2, lAsg, lPar, lSetI, lSetA, lAugS, lLc, lZip, lNeg, lCall, lChain, List.getElem?_cons_zero, List.getElem?_cons_succ, List.set_cons_zero, List.set_cons_succ, truE, wipeE, intP, intE, lDc, lAttr, attrE, z.o, List.lookup_cons, beq_self_eq_true, sortE, z.d]
  refine ⟨(lkeys l).map fun (i : Nat) => (i : Int), by rw [ln_keys]; exact (List.map_map ..).symm, by simpa using hl, fun ys py sy => ?_⟩
  obtain ⟨zs, sz, rfl⟩ := srt_of nd py sy
  simp only [new_at]
  rw [List.map_map]
  have nz : (lkeys zs).Nodup := ((sz.1.map (·.1)).nodup_iff).mpr nd
  have z1 : LaneAt ad (h ++ [EO.lst ((lkeys zs).map (EV.int ∘ fun (i : Nat) => (i : Int)))]) p d l n := z.keep (Keep.app _)
  refine dc_ln zs nz (by rw [sz.1.length_eq]; omega) (fun acc => app_at new_at _) (fun x hx acc ky kn hy => bind_nm ?_) ?_
  · have z2 := z1.keep (Keep.app [EO.dic acc])
    simp only [lYes, if_true, lSeq, lSet, lRet, lRetN, lDrop, lIfS, lOp, lVar, lC, lB, lT, lAnd, lOr, lNot, lIf, lAndV, lOrV, lNotV, lNil, lCons, lTup, lLst, lCB, lBM, lSl, lPart, lNext, lFor, lIt, lRng1, lRng2, lAsg, lPar, lSetI, lSetA, lAugS, lLc, lZip, lNeg, lCall, lChain, List.getElem?_cons_zero, List.getElem?_cons_succ, List.set_cons_zero, List.set_cons_succ, truE, wipeE, intP, intE, lAttr, attrE, z2.o, List.lookup_cons, beq_self_eq_true]
    refine ia_d z2.d (show isKey (.int (x.1 : Nat)) from trivial) (x := .int x.2) ?_ hy
    rw [ln_get, (lk_mem nd).mp (sz.1.mem_iff.mp hx)]; rfl
  · exact q zs _ _ sz ((Keep.app _).trans (Keep.app _)) (by simp) new_at
theorem pure_runs_without (ad : Ad) (evs : List EV) (h : EH) (Q : EK) (q : sp_runs_without ad evs h Q) : t_runs_without ad (endsOf Q) (startE N_runs_without evs) h := by
  obtain ⟨d, n, l, rfl, e, hn, q⟩ := q
  show t_runs_without ad (endsOf Q) [some (.ref d), some (.int n), none, none, none] h
  unfold t_runs_without
  rw [lSeq, lPar]
  simp only [lSet, lRet, lRetN, lDrop, lOp, lVar, lC, lB, lT, lAnd, lOr, lNot, lIf, lAndV, lOrV, lNotV, lNil, lCons, lTup, lLst, lCB, lBM, lSl, lPart, lNext, lIt, lRng1, lRng2, lAsg, lPar, lSetI, lSetA, lAugS, lLc, lZip, lNeg, lCall, lChain, List.getElem?_cons_zero, List.getElem?_cons_succ, List.set_cons_zero, List.set_cons_succ, wipeE, intP, intE, List.length_nil]
  refine ⟨by rw [sizeL]; decide, ?_⟩
  rw [lSeq, lFor]
  simp only [lSet, lRet, lRetN, lDrop, lOp, lVar, lC, lB, lT, lAnd, lOr, lNot, lIf, lAndV, lOrV, lNotV, lNil, lCons, lTup, lLst, lCB, lBM, lSl, lPart, lNext, lIt, lRng1, lRng2, lAsg, lPar, lSetI, lSetA, lAugS, lLc, lZip, lNeg, lCall, lChain, List.getElem?_cons_zero, List.getElem?_cons_succ, List.set_cons_zero, List.set_cons_succ, wipeE, intP, intE, intP]
  refine ⟨⟨by omega, by omega⟩, ?_⟩
  refine loop_nat n (fun i env h' => ∃ x4 : Option EV, env = [some (.ref d), some (.int n), some (.ref h.length), some (lnE (gfold l i).2), x4] ∧ Keep no1 h h' ∧ h'[h.length]? = some (.lst ((gfold l i).1.map prE))) ?_ ?_ _ _ ⟨none, rfl, Keep.app _, new_at⟩
  · rintro env h' ⟨x4, rfl, k, e1⟩
    refine ⟨trivial, ?_⟩
    have rg := gfold_rg l n
    have qq : ∀ x, x = gaps l n → ∀ h', Keep no1 h h' → Q (.tup (x.map prE)) h' := fun x ex => by rw [ex]; exact q
    unfold gaps at qq
    generalize gfold l n = s at e1 qq rg
    obtain ⟨f, b⟩ := s
    cases b with
    | none =>
      simp only [lSeq, lSet, lRet, lRetN, lDrop, lIfS, lOp, lVar, lC, lB, lT, lAnd, lOr, lNot, lIf, lAndV, lOrV, lNotV, lNil, lCons, lTup, lLst, lCB, lBM, lSl, lPart, lNext, lFor, lIt, lRng1, lRng2, lAsg, lPar, lSetI, lSetA, lAugS, lLc, lZip, lNeg, lCall, lChain, List.getElem?_cons_zero, List.getElem?_cons_succ, List.set_cons_zero, List.set_cons_succ, truE, wipeE, intP, intE, lnE, isN, Bool.not_true, Bool.false_eq_true, if_false, tupleOf, e1]
      exact qq _ rfl _ k
    | some b =>
      simp only [lSeq, lSet, lRet, lRetN, lDrop, lIfS, lOp, lVar, lC, lB, lT, lAnd, lOr, lNot, lIf, lAndV, lOrV, lNotV, lNil, lCons, lTup, lLst, lCB, lBM, lSl, lPart, lNext, lFor, lIt, lRng1, lRng2, lAsg, lPar, lSetI, lSetA, lAugS, lLc, lZip, lNeg, lCall, lChain, List.getElem?_cons_zero, List.getElem?_cons_succ, List.set_cons_zero, List.set_cons_succ, truE, wipeE, intP, intE, lnE, isN, if_true, lStar, itemsE, e1]
      have := qq _ rfl _ k
      rw [List.map_append] at this
      refine ⟨by simp [sizeL], ?_, this⟩
      have := rg.1
      simp [sizeL] at this ⊢
      omega
  · rintro i env h' kk hi ⟨x4, rfl, k, e1⟩ hk
    refine ⟨trivial, bind_nm ?_⟩
    have rg := gfold_rg l i
    have hk2 : ∀ s, s = gstep l (gfold l i) i → ∀ env' h', (∃ x4 : Option EV, env' = [some (.ref d), some (.int n), some (.ref h.length), some (lnE s.2), x4] ∧ Keep no1 h h' ∧ h'[h.length]? = some (.lst (s.1.map prE))) → kk env' h' := fun s es env' h' z => hk env' h' (by rw [gfold_succ, ← es]; exact z)
    clear hk
    unfold gstep at hk2
    generalize gfold l i = s at e1 hk2 rg
    obtain ⟨f, b⟩ := s
    have hl : (f.map prE).length < sizeLine := by
      rw [List.length_map, sizeL]
      have := rg.1
      simp at this
      omega
    simp only [lSeq, lSet, lRet, lRetN, lDrop, lIfS, lOp, lVar, lC, lB, lT, lAnd, lOr, lNot, lIf, lAndV, lOrV, lNotV, lNil, lCons, lTup, lLst, lCB, lBM, lSl, lPart, lNext, lFor, lIt, lRng1, lRng2, lAsg, lPar, lSetI, lSetA, lAugS, lLc, lZip, lNeg, lCall, lChain, List.getElem?_cons_zero, List.getElem?_cons_succ, List.set_cons_zero, List.set_cons_succ, truE, wipeE, intP, intE, inA, k.at e, isKey, ln_has, Bool.false_xor]
    refine ⟨trivial, ?_⟩
    cases hs : (lk l i).isSome
    · rw [hs] at hk2
      simp only [Bool.false_eq_true, if_false, Bool.true_xor, Bool.not_false, if_true, k.at e, ln_has, hs]
      refine ⟨trivial, ?_⟩
      cases b with
      | none =>
        simp only [lnE, isN, Bool.not_false, if_true]
        exact hk2 (f, some i) rfl _ _ ⟨_, rfl, k, e1⟩
      | some b =>
        simp only [lnE, isN, Bool.not_false, if_true, Bool.false_eq_true, if_false]
        exact hk2 (f, some b) rfl _ _ ⟨_, rfl, k, e1⟩
    · rw [hs] at hk2
      simp only [if_true]
      cases b with
      | none =>
        simp only [lnE, isN, Bool.not_true, Bool.false_eq_true, if_false, Bool.true_xor, k.at e, ln_has, hs]
        refine ⟨trivial, ?_⟩
        exact hk2 (f, none) rfl _ _ ⟨_, rfl, k, e1⟩
      | some b =>
        simp only [lnE, isN, if_true]
        refine ⟨isTy_l e1, by simp [sizeL], ?_⟩
        refine app_f e1 hl ?_
        refine hk2 (f ++ [(b, i)], none) rfl _ _ ⟨_, rfl, k.fresh (Nat.le_refl _), ?_⟩
        rw [set_at e1, List.map_append]; rfl
theorem pure_Lane_gaps (ad : Ad) (evs : List EV) (h : EH) (Q : EK) (q : sp_Lane_gaps ad evs h Q) : t_Lane_gaps ad (endsOf Q) (startE N_Lane_gaps evs) h := by
  obtain ⟨p, d, l, n, rfl, z, ok, q⟩ := q
  show t_Lane_gaps ad (endsOf Q) [some (.ref p), none, none] h
  unfold t_Lane_gaps
  rw [lSeq, lSet]
  simp only [lCB, lCons, lNil, lLst, lStar, lC]
  refine lock_lc [2] z.d (by have := ok.sz; omega) (fun i => some (.int ((i : Int) + 1))) (fun od l0 P p' => ?_) (fun x hx h1 ky kn hy hn => ?_) fun h' k lt e1 => ?_
  · simp only [lAttr, attrE, lSeq, lSet, lRet, lRetN, lDrop, lIfS, lOp, lVar, lC, lB, lT, lAnd, lOr, lNot, lIf, lAndV, lOrV, lNotV, lNil, lCons, lTup, lLst, lCB, lBM, lSl, lPart, lNext, lFor, lIt, lRng1, lRng2, lAsg, lPar, lSetI, lSetA, lAugS, lLc, lZip, lNeg, lCall, lChain, List.getElem?_cons_zero, List.getElem?_cons_succ, List.set_cons_zero, List.set_cons_succ, truE, wipeE, intP, intE, set_off z.o (show p ≠ d by
      rintro rfl
      have := z.o.symm.trans z.d
      cases this), List.lookup_cons, beq_self_eq_true]
    exact p'
  · simp only [lYes, if_true, lSeq, lSet, lRet, lRetN, lDrop, lIfS, lOp, lVar, lC, lB, lT, lAnd, lOr, lNot, lIf, lAndV, lOrV, lNotV, lNil, lCons, lTup, lLst, lCB, lBM, lSl, lPart, lNext, lFor, lIt, lRng1, lRng2, lAsg, lPar, lSetI, lSetA, lAugS, lLc, lZip, lNeg, lCall, lChain, List.getElem?_cons_zero, List.getElem?_cons_succ, List.set_cons_zero, List.set_cons_succ, truE, wipeE, intP, intE, wipeE]
    exact add_i (hy _ rfl)
  · simp only [itemsE, e1, lSeq, lSet, lRet, lRetN, lDrop, lIfS, lOp, lVar, lC, lB, lT, lAnd, lOr, lNot, lIf, lAndV, lOrV, lNotV, lNil, lCons, lTup, lLst, lCB, lBM, lSl, lPart, lNext, lFor, lIt, lRng1, lRng2, lAsg, lPar, lSetI, lSetA, lAugS, lLc, lZip, lNeg, lCall, lChain, List.getElem?_cons_zero, List.getElem?_cons_succ, List.set_cons_zero, List.set_cons_succ, truE, wipeE, intP, intE]
    have ee : [EV.int 0] ++ ((lkeys l).filterMap (fun (i : Nat) => some (EV.int ((i : Int) + 1))) ++ []) = ((0 : Int) :: l.map fun q => ((q.1 : Int) + 1)).map EV.int := by
      rw [List.append_nil, List.filterMap_eq_map', List.map_map, List.map_cons, List.map_map]; rfl
    rw [show EV.int 0 :: ((lkeys l).filterMap (fun (i : Nat) => some (EV.int ((i : Int) + 1))) ++ []) = ((0 : Int) :: l.map fun q => ((q.1 : Int) + 1)).map EV.int from ee]
    have hl : (((0 : Int) :: l.map fun q => ((q.1 : Int) + 1)).map EV.int).length ≤ sizeLine := by
      have := ok.sz
      simp [sizeL]; omega
    refine ⟨hl, ?_⟩
    simp only [maxE, new_at]
    refine ⟨_, rfl, by simp, fun m hm hy => ?_⟩
    have em : m = (ltop l : Nat) := by
      have h1 : (ltop l : Int) ≤ m := by
        rcases ltop_mem l with ⟨_, e⟩ | ⟨q, hq, e⟩
        · rw [e]; exact hy 0 (by simp)
        · rw [e]
          have := hy ((q.1 : Int) + 1) (List.mem_cons_of_mem _ (List.mem_map.mpr ⟨q, hq, rfl⟩))
          omega
      have h2 : m ≤ ltop l := by
        rcases List.mem_cons.mp hm with rfl | hm
        · omega
        · obtain ⟨q, hq, rfl⟩ := List.mem_map.mp hm
          have := ltop_le.mp (Nat.le_refl (ltop l)) q hq
          omega
      omega
    subst em
    have k2 := k.trans (Keep.app [EO.lst (((0 : Int) :: l.map fun q => ((q.1 : Int) + 1)).map EV.int)])
    have z2 := z.keep k2
    have rt : ltop l ≤ 200 := ltop_le.mpr fun q hq => (ok.rg q hq).1
    have go : ∀ env : En, env = [some (.ref p), some (.int (ltop l : Nat)), none] → (lRet (lCall (sp_runs_without ad) (lCons (lAttr [(ad.a_Lane, 1)] (lVar 0)) (lCons (lIf (lB (lOp (isN false) (lAttr [(ad.a_Lane, 0)] (lVar 0)) (lC .non))) (lVar 1) (lAttr [(ad.a_Lane, 0)] (lVar 0))) (lNil))))) (endsOf Q) env (h' ++ [EO.lst (((0 : Int) :: l.map fun q => ((q.1 : Int) + 1)).map EV.int)]) := by
      rintro env rfl
      simp only [lSeq, lSet, lRet, lRetN, lDrop, lIfS, lOp, lVar, lC, lB, lT, lAnd, lOr, lNot, lIf, lAndV, lOrV, lNotV, lNil, lCons, lTup, lLst, lCB, lBM, lSl, lPart, lNext, lFor, lIt, lRng1, lRng2, lAsg, lPar, lSetI, lSetA, lAugS, lLc, lZip, lNeg, lCall, lChain, List.getElem?_cons_zero, List.getElem?_cons_succ, List.set_cons_zero, List.set_cons_succ, truE, wipeE, intP, intE, lAttr, attrE, z2.o, List.lookup_cons, beq_self_eq_true]
      cases n with
      | none =>
        simp only [lnE, isN, Bool.not_false, if_true]
        exact ⟨d, ltop l, l, rfl, z2.d, by omega, fun h3 k3 => q h3 (k2.trans k3)⟩
      | some m =>
        simp only [lnE, isN, Bool.false_eq_true, if_false, z2.o, List.lookup_cons, beq_self_eq_true, List.getElem?_cons_zero]
        exact ⟨d, m, l, rfl, z2.d, by have := (ok.le m rfl).1; omega, fun h3 k3 => q h3 (k2.trans k3)⟩
    exact go _ rfl
theorem pure_Lane_twin (ad : Ad) (evs : List EV) (h : EH) (Q : EK) (q : sp_Lane_twin ad evs h Q) : t_Lane_twin ad (endsOf Q) (startE N_Lane_twin evs) h := by
  obtain ⟨p, d, l, n, rfl, z, q⟩ := q
  show t_Lane_twin ad (endsOf Q) [some (.ref p), none] h
  unfold t_Lane_twin
  rw [lSeq, lSet]
  simp only [lSet, lRet, lRetN, lDrop, lOp, lVar, lC, lB, lT, lAnd, lOr, lNot, lIf, lAndV, lOrV, lNotV, lNil, lCons, lTup, lLst, lCB, lBM, lSl, lPart, lNext, lIt, lRng1, lRng2, lAsg, lPar, lSetI, lSetA, lAugS, lLc, lZip, lNeg, lCall, lChain, List.getElem?_cons_zero, List.getElem?_cons_succ, List.set_cons_zero, List.set_cons_succ, wipeE, intP, intE, lMake]
  refine ⟨h.length, rfl, new_at, fun d1 h1 k1 l1 z1 => ?_⟩
  refine ⟨rfl, ?_⟩
  have hz : LaneAt ad h1 p d l n := ⟨k1.other (app_at z.o _) (by have := lt_of_at z.o; omega), k1.other (app_at z.d _) (by have := lt_of_at z.d; omega)⟩
  have k01 : Keep no1 h h1 := ⟨Nat.le_trans (by simp) k1.1, fun r o e _ => k1.2 r o (app_at e _) (by have := lt_of_at e; unfold is1; omega)⟩
  have e1 := app_at z1.o [.dic (lnKV l)]
  have hlt := lt_of_at z1.o
  rw [lSeq, lSetAt2]
  simp only [lSet, lRet, lRetN, lDrop, lOp, lVar, lC, lB, lT, lAnd, lOr, lNot, lIf, lAndV, lOrV, lNotV, lNil, lCons, lTup, lLst, lCB, lBM, lSl, lPart, lNext, lIt, lRng1, lRng2, lAsg, lPar, lSetI, lSetA, lAugS, lLc, lZip, lNeg, lCall, lChain, List.getElem?_cons_zero, List.getElem?_cons_succ, List.set_cons_zero, List.set_cons_succ, wipeE, intP, intE, lAttr, attrE, hz.o, List.lookup_cons, beq_self_eq_true, dcopyE, hz.d, (hz.keep (Keep.app [.dic (lnKV l)])).o, putAt, e1, List.getElem?_cons_succ, List.getElem?_cons_zero]
  have e2 := set_at (o := EO.slo ad.a_Lane (putO 1 (.ref h1.length) [some (lnE none), some (.ref d1)])) e1
  simp only [e2, List.lookup_cons, beq_self_eq_true]
  refine ⟨by simp [sizeL], ?_⟩
  refine q h.length h1.length _ ?_ (Nat.le_refl _) k01.1 ⟨?_, ?_⟩
  · exact ((k01.trans (Keep.app _)).fresh (Nat.le_refl _)).fresh (Nat.le_refl _)
  · rw [set_at e2]; rfl
  · exact set_off (set_off new_at (by omega)) (by omega)
end Y

namespace Y
open PySem PySem.Spec PyProof.Rows L2

theorem Dats_ints {h : EH} {n : Nat} : ∀ l : List Int, Dats h n (l.map EV.int) (l.map PyData.int)
  | [] => .nil
  | x :: l => .cons (.int x) (Dats_ints l)
theorem lock_set {h : EH} {d : Nat} {l : LKV} {env : En} {D : LEnds} {te : LT} {tt : LTt} {tel : LT} {j k : Nat} (vs : List Nat) (e : h[d]? = some (.dic (lnKV l))) (hl : l.length ≤ 1000000) (f : Nat → Option EV)
    (he : ∀ od l0 (P : EK), P (.ref d) (h.set d (.dlk od l0 (lnKV l))) → te env (h.set d (.dlk od l0 (lnKV l))) P)
    (step : ∀ q ∈ l, ∀ (h1 : EH) (ky : EK) (kn : EH → Prop), (∀ y, f q.1 = some y → ky y h1) → (f q.1 = none → kn h1) → tt ((wipeE env vs).set j (some (.int (q.1 : Nat)))) h1 fun b h3 => if b = true then tel ((wipeE env vs).set j (some (.int (q.1 : Nat)))) h3 ky else kn h3)
    (fin : ∀ h', Keep no1 h h' → h'[h.length]? = some (.lst ((lkeys l).filterMap f)) → h.length < h'.length → D.nx (env.set k (some (.ref h.length))) h') :
    lLock (lSet (lLc (lKeys te) (.nm j) tt tel vs) k) D env h := by
  refine ⟨d, _, e, fun od l0 => ?_⟩
  have d0 := set_at (o := EO.dlk od l0 (lnKV l)) e
  have hd := lt_of_at e
  have hlen : (h.set d (.dlk od l0 (lnKV l))).length = h.length := by simp
  unfold lSet lLc lKeys
  refine he od l0 _ ?_
  simp only [d0]
  have fm : ((lnKV l).map (·.1)).filterMap (fun v => match v with | .int i => f i.toNat | _ => none) = (lkeys l).filterMap f := by
    rw [ln_keys, List.filterMap_map]
    rfl
  refine lc_plain (fun v => match v with | .int i => f i.toNat | _ => none) _ (by rw [List.length_map, sizeL]; simp [lnKV]; omega) (fun acc => app_at d0 _) (fun x hx acc ky kn hy hn => ?_) ?_
  · rw [ln_keys] at hx
    obtain ⟨i, hi, rfl⟩ := List.mem_map.mp hx
    obtain ⟨q, hq, rfl⟩ := List.mem_map.mp hi
    refine bind_nm ?_
    exact step q hq _ ky kn hy hn
  · rw [fm]
    refine ⟨app_at d0 _, ?_⟩
    rw [hlen]
    have kk := (lock_back (od := od) (l0 := l0) (h' := h.set d (.dlk od l0 (lnKV l)) ++ [.lst ((lkeys l).filterMap f)]) e (Keep.app _)).2
    refine fin _ kk ?_ (by simp)
    rw [List.getElem?_set_ne (by omega)]
    have := new_at (h := h.set d (.dlk od l0 (lnKV l))) (o := EO.lst ((lkeys l).filterMap f))
    rwa [hlen] at this
def fw (l : LKV) : Nat → List Int → Option Nat
  | _, [] => none
  | p, x :: xs => if (lk l p).getD x = x then fw l (p + 1) xs else some p
def isLate (n : Option Nat) (p : Nat) (xs : List Int) : Bool := match n with
  | none => false
  | some m => !xs.isEmpty && decide (m < p + xs.length)
def sp_Lane_receive__X (ad : Ad) : LSpX := fun evs h Q W => ∃ (p d place : Nat) (l : LKV) (n : Option Nat) (xs : List Int), evs = [.ref p, .int place, tx xs] ∧ LaneAt ad h p d l n ∧ place < 1000000 ∧ l.length ≤ 1000000 ∧ xs.length ≤ 1000000 ∧
  (fw l place xs = none → isLate n place xs = false → ∀ h', Keep (is1 d) h h' → LaneAt ad h' p d (lputs l place xs) n → Q .non h') ∧
  (∀ k, fw l place xs = some k → ∀ h', Keep no1 h h' → W ad.a_Contradiction [("place", .int k)] h') ∧
  (fw l place xs = none → isLate n place xs = true → ∀ m, n = some m → ∀ h', Keep no1 h h' → W ad.a_BeyondEnd [("place", .int ((max place m : Nat) : Int))] h')
def sp_Lane_close__X (ad : Ad) : LSpX := fun evs h Q W => ∃ (p d m : Nat) (l : LKV) (n : Option Nat), evs = [.ref p, .int m] ∧ LaneAt ad h p d l n ∧ l.length ≤ 1000000 ∧
  ((∀ k, n = some k → k = m) → (∀ q ∈ l, q.1 < m) → ∀ h', Keep (is1 p) h h' → LaneAt ad h' p d l (some m) → Q .non h') ∧
  (∀ k, n = some k → k ≠ m → ∀ h', Keep no1 h h' → W ad.a_AlreadyEnded [("length", .int k)] h') ∧
  ((∀ k, n = some k → k = m) → ∀ k, k ∈ lkeys l → m ≤ k → (∀ j ∈ lkeys l, m ≤ j → k ≤ j) → ∀ h', Keep no1 h h' → W ad.a_EndsShort [("place", .int k)] h')
abbrev N_Lane_receive__X : List Str := ["self", "place", "text", "spot", "letter"]
def t_Lane_receive__X (ad : Ad) (W : EW) : LS :=
    lSeq (lFor (lEnumS (lCons (lVar 2) (lNil)) (lVar 1)) (.tp [.nm 3, .nm 4])
      (lIfS (lB (lOp (eqE true) (lGet2 (lAttr [(ad.a_Lane, 1)] (lVar 0)) (lVar 3) (lVar 4)) (lVar 4)))
      (lRaise W ad.a_Contradiction "place" (lVar 3))
      (lNext))) <|
    lSeq (lIfS (lAnd (lB (lOp (isN true) (lAttr [(ad.a_Lane, 0)] (lVar 0)) (lC .non))) (lAnd (lB (lOp (eqE true) (lVar 2) (lTup (lNil)))) (lB (lOp gtE (lOp addE (lVar 1) (lCB lenE (lCons (lVar 2) (lNil)))) (lAttr [(ad.a_Lane, 0)] (lVar 0))))))
      (lRaise W ad.a_BeyondEnd "place" (lCB maxE (lCons (lVar 1) (lCons (lAttr [(ad.a_Lane, 0)] (lVar 0)) (lNil)))))
      (lNext)) <|
    lFor (lEnumS (lCons (lVar 2) (lNil)) (lVar 1)) (.tp [.nm 3, .nm 4])
      (lSetA (lAttr [(ad.a_Lane, 1)] (lVar 0)) (lVar 3) (lVar 4))
abbrev N_Lane_close__X : List Str := ["self", "length", "beyond", "place"]
def t_Lane_close__X (ad : Ad) (W : EW) : LS :=
    lSeq (lIfS (lAnd (lB (lOp (isN true) (lAttr [(ad.a_Lane, 0)] (lVar 0)) (lC .non))) (lB (lOp (eqE true) (lAttr [(ad.a_Lane, 0)] (lVar 0)) (lVar 1))))
      (lRaise W ad.a_AlreadyEnded "length" (lAttr [(ad.a_Lane, 0)] (lVar 0)))
      (lNext)) <|
    lSeq (lLock (lSet (lLc (lKeys (lAttr [(ad.a_Lane, 1)] (lVar 0))) (.nm 3) (lB (lOp geE (lVar 3) (lVar 1))) (lVar 3) [3]) 2)) <|
    lSeq (lIfS (lB (lOp (eqE true) (lVar 2) (lLst (lNil))))
      (lRaise W ad.a_EndsShort "place" (lCB minE (lCons (lVar 2) (lNil))))
      (lNext)) <|
    lSetAt [(ad.a_Lane, 0)] (lVar 0) (lVar 1)
theorem len_Lane_receive__X (ad : Ad) (evs : List EV) (h : EH) (Q : EK) (W : ED) (q : sp_Lane_receive__X ad evs h Q W) : evs.length = ["self", "place", "text"].length := by
  obtain ⟨_, _, _, _, _, _, rfl, _⟩ := q; rfl
theorem len_Lane_close__X (ad : Ad) (evs : List EV) (h : EH) (Q : EK) (W : ED) (q : sp_Lane_close__X ad evs h Q W) : evs.length = ["self", "length"].length := by
  obtain ⟨_, _, _, _, _, rfl, _⟩ := q; rfl
theorem tx_ne {xs : List Int} {h : EH} {P : EK} (p : P (.bl (!xs.isEmpty)) h) : eqE true (tx xs) (.tup []) h P := by
  refine ⟨.tuple (xs.map PyData.int), .tuple [], .tup (Dats_ints xs), .tup .nil, ?_⟩
  cases xs with
  | nil => simpa [PyData.eqv, PyData.eqvAll] using p
  | cons x xs => simpa [PyData.eqv, PyData.eqvAll] using p
theorem lane_ne {ad : Ad} {h : EH} {p d : Nat} {l : LKV} {n : Option Nat} (z : LaneAt ad h p d l n) : p ≠ d := by
  rintro rfl
  have := z.o.symm.trans z.d
  cases this
theorem pure_Lane_receive__X (ad : Ad) (evs : List EV) (h0 : EH) (Q : EK) (W : ED) (q : sp_Lane_receive__X ad evs h0 Q W) (mk : EO) (hmk : isF mk = true) :
    t_Lane_receive__X ad (fun C fs _ h' => h'[h0.length]? = some mk ∧ W C fs h') (endsOf Q) (startE N_Lane_receive__X evs) (h0 ++ [mk]) := by
  obtain ⟨p, d, place, l, n, xs, rfl, z0, hp, hl, hx, q, qc, qb⟩ := q
  have k0 : Keep no1 h0 (h0 ++ [mk]) := Keep.app _
  have em : (h0 ++ [mk])[h0.length]? = some mk := new_at
  have z := z0.keep k0
  have hlen : h0.length < (h0 ++ [mk]).length := by simp
  clear hmk
  generalize h0 ++ [mk] = h at *
  show t_Lane_receive__X ad _ (endsOf Q) [some (.ref p), some (.int place), some (tx xs), none, none] h
  unfold t_Lane_receive__X
  rw [lSeq, lFor]
  simp only [lSet, lRet, lRetN, lDrop, lOp, lVar, lC, lB, lT, lAnd, lOr, lNot, lIf, lAndV, lOrV, lNotV, lNil, lCons, lTup, lLst, lCB, lBM, lSl, lPart, lNext, lIt, lRng1, lRng2, lAsg, lPar, lSetI, lSetA, lAugS, lLc, lZip, lNeg, lCall, lChain, List.getElem?_cons_zero, List.getElem?_cons_succ, List.set_cons_zero, List.set_cons_succ, wipeE, intP, intE, lEnumS, srcE]
  refine ⟨⟨by omega, by omega⟩, ?_⟩
  refine loop_numS EV.int xs place (fun b i env h' => ∃ (x3 x4 : Option EV), env = [some (.ref p), some (.int place), some (tx xs), x3, x4] ∧ h' = h ∧ fw l place xs = fw l i b) ?_ ?_ _ _ ⟨_, _, rfl, rfl, rfl⟩
  · rintro env h' ⟨x3, x4, rfl, rfl, ef⟩
    rw [fw] at ef
    refine ⟨trivial, ?_⟩
    have go : isLate n place xs = false → (lFor (lEnumS (lCons (lVar 2) (lNil)) (lVar 1)) (.tp [.nm 3, .nm 4])
      (lSetA (lAttr [(ad.a_Lane, 1)] (lVar 0)) (lVar 3) (lVar 4))) (endsOf Q) [some (.ref p), some (.int place), some (tx xs), x3, x4] h' := by
      intro hL
      rw [lFor]
      simp only [lSet, lRet, lRetN, lDrop, lOp, lVar, lC, lB, lT, lAnd, lOr, lNot, lIf, lAndV, lOrV, lNotV, lNil, lCons, lTup, lLst, lCB, lBM, lSl, lPart, lNext, lIt, lRng1, lRng2, lAsg, lPar, lSetI, lSetA, lAugS, lLc, lZip, lNeg, lCall, lChain, List.getElem?_cons_zero, List.getElem?_cons_succ, List.set_cons_zero, List.set_cons_succ, wipeE, intP, intE, lEnumS, srcE]
      refine ⟨⟨by omega, by omega⟩, ?_⟩
      refine loop_numS EV.int xs place (fun b i env h2 => ∃ (x3 x4 : Option EV) (l2 : LKV), env = [some (.ref p), some (.int place), some (tx xs), x3, x4] ∧ Keep (is1 d) h' h2 ∧ LaneAt ad h2 p d l2 n ∧ lputs l place xs = lputs l2 i b ∧ l2.length + b.length ≤ l.length + xs.length) ?_ ?_ _ _ ⟨_, _, l, rfl, .refl, z, rfl, Nat.le_refl _⟩
      · rintro env h2 ⟨x3, x4, l2, rfl, k2, z2, e2, _⟩
        rw [lputs] at e2
        exact ⟨trivial, q ef hL h2 (k0.all.trans k2) (by rw [e2]; exact z2)⟩
      · rintro x b i env h2 kk ei ⟨x3, x4, l2, rfl, k2, z2, e2, ll⟩ hk
        refine ⟨trivial, ?_⟩
        rw [List.length_cons] at ll
        simp only [lBind, Pat.bind, Pat.binds, List.set_cons_zero, List.set_cons_succ]
        rw [lSetA]
        simp only [lSet, lRet, lRetN, lDrop, lOp, lVar, lC, lB, lT, lAnd, lOr, lNot, lIf, lAndV, lOrV, lNotV, lNil, lCons, lTup, lLst, lCB, lBM, lSl, lPart, lNext, lIt, lRng1, lRng2, lAsg, lPar, lSetI, lSetA, lAugS, lLc, lZip, lNeg, lCall, lChain, List.getElem?_cons_zero, List.getElem?_cons_succ, List.set_cons_zero, List.set_cons_succ, wipeE, intP, intE, lAttr, attrE, z2.o, List.lookup_cons, beq_self_eq_true, setA, z2.d, isKey, true_and]
        refine ⟨by rw [sizeL]; simp [lnKV]; omega, ?_⟩
        rw [ln_put]
        have := lput_len l2 i x
        refine hk _ _ ⟨_, _, lput l2 i x, rfl, k2.trans (Keep.set rfl), ⟨?_, set_at z2.d⟩, by rw [e2, lputs], by omega⟩
        exact set_off z2.o (lane_ne z2)
    try dsimp only
    rw [lSeq, lIfS]
    simp only [lSet, lRet, lRetN, lDrop, lOp, lVar, lC, lB, lT, lAnd, lOr, lNot, lIf, lAndV, lOrV, lNotV, lNil, lCons, lTup, lLst, lCB, lBM, lSl, lPart, lNext, lIt, lRng1, lRng2, lAsg, lPar, lSetI, lSetA, lAugS, lLc, lZip, lNeg, lCall, lChain, List.getElem?_cons_zero, List.getElem?_cons_succ, List.set_cons_zero, List.set_cons_succ, wipeE, intP, intE, lAttr, attrE, z.o, List.lookup_cons, beq_self_eq_true]
    cases n with
    | none =>
      simp only [lnE, isN, Bool.not_true, Bool.false_eq_true, if_false]
      exact go rfl
    | some m =>
      simp only [lnE, isN, if_true]
      refine ⟨by simp [sizeL], tx_ne ?_⟩
      cases hE : xs.isEmpty
      · simp only [Bool.not_false, if_true, lenE, addE, intP, intE, List.length_map, z.o, List.lookup_cons, beq_self_eq_true, gtE, lnE, List.getElem?_cons_zero]
        by_cases c : (m : Int) < (place : Int) + xs.length
        · simp only [c, decide_true, if_true, lRaise, lSet, lRet, lRetN, lDrop, lOp, lVar, lC, lB, lT, lAnd, lOr, lNot, lIf, lAndV, lOrV, lNotV, lNil, lCons, lTup, lLst, lCB, lBM, lSl, lPart, lNext, lIt, lRng1, lRng2, lAsg, lPar, lSetI, lSetA, lAugS, lLc, lZip, lNeg, lCall, lChain, List.getElem?_cons_zero, List.getElem?_cons_succ, List.set_cons_zero, List.set_cons_succ, wipeE, intP, intE, lAttr, attrE, z.o, List.lookup_cons, beq_self_eq_true, lnE, maxE, List.getElem?_cons_zero]
          refine ⟨em, ?_⟩
          have e3 : (if (m : Int) > (place : Int) then (m : Int) else place) = ((max place m : Nat) : Int) := by split <;> omega
          rw [e3]
          exact qb ef (by simp [isLate, hE]; omega) m rfl _ k0
        · simp only [c, decide_false, Bool.false_eq_true, if_false]
          exact go (by simp [isLate, hE]; omega)
      · simp only [Bool.not_true, Bool.false_eq_true, if_false]
        exact go (by simp [isLate, hE])
  · rintro x b i env h' kk ei ⟨x3, x4, rfl, rfl, ef⟩ hk
    refine ⟨trivial, ?_⟩
    rw [fw] at ef
    simp only [lBind, Pat.bind, Pat.binds, List.set_cons_zero, List.set_cons_succ]
    rw [lIfS]
    simp only [lSet, lRet, lRetN, lDrop, lOp, lVar, lC, lB, lT, lAnd, lOr, lNot, lIf, lAndV, lOrV, lNotV, lNil, lCons, lTup, lLst, lCB, lBM, lSl, lPart, lNext, lIt, lRng1, lRng2, lAsg, lPar, lSetI, lSetA, lAugS, lLc, lZip, lNeg, lCall, lChain, List.getElem?_cons_zero, List.getElem?_cons_succ, List.set_cons_zero, List.set_cons_succ, wipeE, intP, intE, lGet2, lAttr, attrE, z.o, List.lookup_cons, beq_self_eq_true, isDct, z.d, isKey, true_and, ln_get, List.getElem?_cons_succ, List.getElem?_cons_zero]
    have eg : ((lk l i).map EV.int).getD (.int x) = .int ((lk l i).getD x) := by cases lk l i <;> rfl
    rw [eg]
    simp only [eqE]
    by_cases c : (lk l i).getD x = x
    · rw [if_pos c] at ef
      simp only [c, decide_true, Bool.bne_true, Bool.xor_true, Bool.not_true, Bool.false_eq_true, if_false]
      exact hk _ _ ⟨_, _, rfl, rfl, ef⟩
    · rw [if_neg c] at ef
      simp only [c, decide_false, Bool.xor_false, if_true, lRaise, lSet, lRet, lRetN, lDrop, lOp, lVar, lC, lB, lT, lAnd, lOr, lNot, lIf, lAndV, lOrV, lNotV, lNil, lCons, lTup, lLst, lCB, lBM, lSl, lPart, lNext, lIt, lRng1, lRng2, lAsg, lPar, lSetI, lSetA, lAugS, lLc, lZip, lNeg, lCall, lChain, List.getElem?_cons_zero, List.getElem?_cons_succ, List.set_cons_zero, List.set_cons_succ, wipeE, intP, intE]
      exact ⟨em, qc _ ef _ k0⟩
theorem pure_Lane_close__X (ad : Ad) (evs : List EV) (h0 : EH) (Q : EK) (W : ED) (q : sp_Lane_close__X ad evs h0 Q W) (mk : EO) (hmk : isF mk = true) :
    t_Lane_close__X ad (fun C fs _ h' => h'[h0.length]? = some mk ∧ W C fs h') (endsOf Q) (startE N_Lane_close__X evs) (h0 ++ [mk]) := by
  obtain ⟨p, d, m, l, n, rfl, z0, hl, q, qa, qe⟩ := q
  have k0 : Keep no1 h0 (h0 ++ [mk]) := Keep.app _
  have em : (h0 ++ [mk])[h0.length]? = some mk := new_at
  have z := z0.keep k0
  have hlen : h0.length < (h0 ++ [mk]).length := by simp
  clear hmk
  generalize h0 ++ [mk] = h at *
  show t_Lane_close__X ad _ (endsOf Q) [some (.ref p), some (.int m), none, none] h
  unfold t_Lane_close__X
  rw [lSeq, lIfS]
  have go : (∀ k, n = some k → k = m) → (lSeq (lLock (lSet (lLc (lKeys (lAttr [(ad.a_Lane, 1)] (lVar 0))) (.nm 3) (lB (lOp geE (lVar 3) (lVar 1))) (lVar 3) [3]) 2)) <|
    lSeq (lIfS (lB (lOp (eqE true) (lVar 2) (lLst (lNil))))
      (lRaise (fun C fs _ h' => h'[h0.length]? = some mk ∧ W C fs h') ad.a_EndsShort "place" (lCB minE (lCons (lVar 2) (lNil))))
      (lNext)) <|
    lSetAt [(ad.a_Lane, 0)] (lVar 0) (lVar 1)) (endsOf Q) [some (.ref p), some (.int m), none, none] h := by
    intro hn
    rw [lSeq]
    let f : Nat → Option EV := fun i => if m ≤ i then some (.int (i : Nat)) else none
    refine lock_set [3] z.d hl f (fun od l0 P p' => ?_) (fun x hx h1 ky kn hy hn => ?_) fun h' k e1 lt => ?_
    · simp only [lAttr, attrE, lSeq, lSet, lRet, lRetN, lDrop, lIfS, lOp, lVar, lC, lB, lT, lAnd, lOr, lNot, lIf, lAndV, lOrV, lNotV, lNil, lCons, lTup, lLst, lCB, lBM, lSl, lPart, lNext, lFor, lIt, lRng1, lRng2, lAsg, lPar, lSetI, lSetA, lAugS, lLc, lZip, lNeg, lCall, lChain, List.getElem?_cons_zero, List.getElem?_cons_succ, List.set_cons_zero, List.set_cons_succ, truE, wipeE, intP, intE, set_off z.o (lane_ne z), List.lookup_cons, beq_self_eq_true]
      exact p'
    · simp only [lSeq, lSet, lRet, lRetN, lDrop, lIfS, lOp, lVar, lC, lB, lT, lAnd, lOr, lNot, lIf, lAndV, lOrV, lNotV, lNil, lCons, lTup, lLst, lCB, lBM, lSl, lPart, lNext, lFor, lIt, lRng1, lRng2, lAsg, lPar, lSetI, lSetA, lAugS, lLc, lZip, lNeg, lCall, lChain, List.getElem?_cons_zero, List.getElem?_cons_succ, List.set_cons_zero, List.set_cons_succ, truE, wipeE, intP, intE, wipeE, geE]
      by_cases c : m ≤ x.1
      · have c2 : (m : Int) ≤ x.1 := by omega
        simp only [c2, decide_true, if_true]
        exact hy _ (by simp only [f, if_pos c])
      · have c2 : ¬ (m : Int) ≤ x.1 := by omega
        simp only [c2, decide_false, Bool.false_eq_true, if_false]
        exact hn (by simp only [f, if_neg c])
    · have ef : (lkeys l).filterMap f = ((lkeys l).filter fun i => decide (m ≤ i)).map fun (i : Nat) => EV.int i := by
        have key : ∀ ks : List Nat, ks.filterMap f = (ks.filter fun i => decide (m ≤ i)).map fun (i : Nat) => EV.int i := by
          intro ks
          induction ks with
          | nil => rfl
          | cons a ks ih =>
            rw [List.filterMap_cons, List.filter_cons, ih]
            by_cases c : m ≤ a <;> simp [f, c]
        exact key _
      rw [ef] at e1
      have em' := k.at em
      have z' := z.keep k
      generalize hg : (lkeys l).filter (fun i => decide (m ≤ i)) = g at e1
      simp only [List.set_cons_zero, List.set_cons_succ]
      rw [lSeq, lIfS]
      simp only [lSet, lRet, lRetN, lDrop, lOp, lVar, lC, lB, lT, lAnd, lOr, lNot, lIf, lAndV, lOrV, lNotV, lNil, lCons, lTup, lLst, lCB, lBM, lSl, lPart, lNext, lIt, lRng1, lRng2, lAsg, lPar, lSetI, lSetA, lAugS, lLc, lZip, lNeg, lCall, lChain, List.getElem?_cons_zero, List.getElem?_cons_succ, List.set_cons_zero, List.set_cons_succ, wipeE, intP, intE, List.length_nil]
      refine ⟨by rw [sizeL]; decide, ?_⟩
      have e2 := app_at e1 [EO.lst []]
      have e3 : (h' ++ [EO.lst []])[h'.length]? = some (.lst []) := new_at
      refine ⟨.list (g.map fun (i : Nat) => PyData.int i), .list [], .lst e2 (by rw [show (g.map fun (i : Nat) => EV.int i) = (g.map fun (i : Nat) => (i : Int)).map EV.int by rw [List.map_map]; rfl, show (g.map fun (i : Nat) => PyData.int i) = (g.map fun (i : Nat) => (i : Int)).map PyData.int by rw [List.map_map]; rfl]; exact Dats_ints _), .lst e3 .nil, ?_⟩
      cases g with
      | nil =>
        simp only [List.map_nil, PyData.eqv, PyData.eqvAll, Bool.xor_true, Bool.not_true, Bool.false_eq_true, if_false]
        rw [lSetAt]
        simp only [lSet, lRet, lRetN, lDrop, lOp, lVar, lC, lB, lT, lAnd, lOr, lNot, lIf, lAndV, lOrV, lNotV, lNil, lCons, lTup, lLst, lCB, lBM, lSl, lPart, lNext, lIt, lRng1, lRng2, lAsg, lPar, lSetI, lSetA, lAugS, lLc, lZip, lNeg, lCall, lChain, List.getElem?_cons_zero, List.getElem?_cons_succ, List.set_cons_zero, List.set_cons_succ, wipeE, intP, intE, app_at z'.o, List.lookup_cons, beq_self_eq_true]
        have k3 : Keep no1 h0 (h' ++ [EO.lst []]) := k0.trans (k.trans (Keep.app _))
        have z3 := z'.keep (Keep.app [EO.lst []])
        refine q hn (fun x hx => ?_) _ (k3.all.trans (Keep.set rfl)) ⟨?_, set_off z3.d (fun z => lane_ne z3 z.symm)⟩
        · have : x.1 ∉ (lkeys l).filter fun i => decide (m ≤ i) := by rw [hg]; simp
          rw [List.mem_filter] at this
          have hm : x.1 ∈ lkeys l := List.mem_map.mpr ⟨x, hx, rfl⟩
          rcases Nat.lt_or_ge x.1 m with c | c
          · exact c
          · exact absurd ⟨hm, by simpa using c⟩ this
        · rw [set_at z3.o]; rfl
      | cons a g =>
        simp only [List.map_cons, PyData.eqv, PyData.eqvAll, Bool.xor_false, if_true, lRaise, lSet, lRet, lRetN, lDrop, lOp, lVar, lC, lB, lT, lAnd, lOr, lNot, lIf, lAndV, lOrV, lNotV, lNil, lCons, lTup, lLst, lCB, lBM, lSl, lPart, lNext, lIt, lRng1, lRng2, lAsg, lPar, lSetI, lSetA, lAugS, lLc, lZip, lNeg, lCall, lChain, List.getElem?_cons_zero, List.getElem?_cons_succ, List.set_cons_zero, List.set_cons_succ, wipeE, intP, intE, minE, e2]
        refine ⟨(a :: g).map fun (i : Nat) => (i : Int), by simp, by simp, fun b hb hmin => ?_⟩
        obtain ⟨b, hb1, rfl⟩ := List.mem_map.mp hb
        clear hb
        rw [← hg, List.mem_filter] at hb1
        have hb := hb1
        refine ⟨app_at em' _, qe hn b hb.1 (by simpa using hb.2) (fun j hj hmj => ?_) _ (k0.trans (k.trans (Keep.app _)))⟩
        have := hmin (j : Int) (List.mem_map.mpr ⟨j, by rw [← hg, List.mem_filter]; exact ⟨hj, by simpa using hmj⟩, rfl⟩)
        omega
  simp only [lSet, lRet, lRetN, lDrop, lOp, lVar, lC, lB, lT, lAnd, lOr, lNot, lIf, lAndV, lOrV, lNotV, lNil, lCons, lTup, lLst, lCB, lBM, lSl, lPart, lNext, lIt, lRng1, lRng2, lAsg, lPar, lSetI, lSetA, lAugS, lLc, lZip, lNeg, lCall, lChain, List.getElem?_cons_zero, List.getElem?_cons_succ, List.set_cons_zero, List.set_cons_succ, wipeE, intP, intE, lAttr, attrE, z.o, List.lookup_cons, beq_self_eq_true]
  cases n with
  | none =>
    simp only [lnE, isN, Bool.not_true, Bool.false_eq_true, if_false]
    exact go (fun k z => nomatch z)
  | some k =>
    simp only [lnE, isN, if_true, z.o, List.lookup_cons, beq_self_eq_true, eqE, List.getElem?_cons_zero]
    by_cases c : k = m
    · have c2 : (k : Int) = m := by omega
      simp only [c2, decide_true, Bool.xor_true, Bool.not_true, Bool.false_eq_true, if_false]
      exact go (fun k' z => by cases z; exact c)
    · have c2 : ¬ (k : Int) = m := by omega
      simp only [c2, decide_false, Bool.xor_false, if_true, lRaise, lSet, lRet, lRetN, lDrop, lOp, lVar, lC, lB, lT, lAnd, lOr, lNot, lIf, lAndV, lOrV, lNotV, lNil, lCons, lTup, lLst, lCB, lBM, lSl, lPart, lNext, lIt, lRng1, lRng2, lAsg, lPar, lSetI, lSetA, lAugS, lLc, lZip, lNeg, lCall, lChain, List.getElem?_cons_zero, List.getElem?_cons_succ, List.set_cons_zero, List.set_cons_succ, wipeE, intP, intE, lAttr, attrE, z.o, List.lookup_cons, beq_self_eq_true, lnE, List.getElem?_cons_zero]
      exact ⟨em, qa k rfl c _ k0⟩
end Y

namespace Y
open PySem PySem.Spec PyProof.Rows L2

def DSE (h : EH) (k : Nat) (v : EV) (d : PyData) : Prop := DatE h v d ∧ d.showable = true ∧ d.leavesShort 13 = true ∧ d.weight ≤ k
def DSEs (h : EH) (k : Nat) (vs : List EV) (ds : List PyData) : Prop := DatEs h vs ds ∧ PyData.showableAll ds = true ∧ PyData.leavesShortAll 13 ds = true ∧ PyData.weightAll ds ≤ k
theorem DSEs.nil {h : EH} {k : Nat} : DSEs h k [] [] := ⟨.nil, by simp [PyData.showableAll], by simp [PyData.leavesShortAll], by simp [PyData.weightAll]⟩
theorem DSEs.cons {h : EH} {x : EV} {xs : List EV} {d : PyData} {ds : List PyData} {a b : Nat} (hx : DSE h a x d) (hs : DSEs h b xs ds) : DSEs h (a + 1 + b) (x :: xs) (d :: ds) := by
  refine ⟨.cons hx.1 hs.1, ?_, ?_, ?_⟩
  · simp only [PyData.showableAll, hx.2.1, hs.2.1, Bool.and_self]
  · simp only [PyData.leavesShortAll, hx.2.2.1, hs.2.2.1, Bool.and_self]
  · simp only [PyData.weightAll]
    have := hx.2.2.2
    have := hs.2.2.2
    omega
theorem DSE.lst {h : EH} {r k : Nat} {xs : List EV} {ds : List PyData} (e : h[r]? = some (.lst xs)) (hs : DSEs h k xs ds) : DSX h k (.ref r) (.list ds) := by
  refine ⟨.lst e hs.1, ?_, ?_, ?_⟩
  · simpa only [PyData.showable] using hs.2.1
  · simpa only [PyData.leavesShort] using hs.2.2.1
  · simpa only [PyData.weight] using hs.2.2.2
theorem DS.e {h : EH} {n k : Nat} {v : EV} {d : PyData} (x : DS h n k v d) (hn : n ≤ 55) : DSE h k v d := ⟨.pl (Dat.deep x.1 hn), x.2⟩
def SmL (xs : List Int) : Prop := ∀ x ∈ xs, 0 ≤ x ∧ x ≤ 2000000000
theorem smL_ds {h : EH} {n : Nat} {xs : List Int} (s : SmL xs) : DS h (n + 1) (xs.length * 42) (tx xs) (.tuple (xs.map PyData.int)) :=
  DS.tup (ds_map xs fun x hx => DS.int (by have := s x hx; omega) (Nat.le_refl _))
theorem LOk.sm {l : LKV} {n : Option Nat} (ok : LOk l n) {xs : List Int} (z : IsHead l xs) : SmL xs := fun x hx => by
  obtain ⟨i, hi, e⟩ := List.getElem_of_mem hx
  have h1 := z.1 i hi
  rw [List.getElem?_eq_getElem hi, e] at h1
  exact (ok.rg (i, x) ((lk_mem ok.nd).mpr h1)).2
def lnED : Option Nat → PyData
  | none => .none
  | some j => .int (j : Nat)
theorem lnE_ds {h : EH} {n k : Nat} {m : Option Nat} (hm : ∀ j, m = some j → j < 1000) (hk : 41 ≤ k) : DS h n k (lnE m) (lnED m) := by
  cases m with
  | none => exact .non
  | some j => exact .int (by have := hm j rfl; omega) hk
def gapD (q : Nat × Nat) : PyData := .tuple [.int q.1, .int q.2]
theorem gaps_ds {h : EH} {n : Nat} {l : LKV} {m : Nat} (hm : m ≤ 1000) : DS h (n + 2) ((gaps l m).length * 100) (.tup ((gaps l m).map prE)) (.tuple ((gaps l m).map gapD)) := by
  have rg := (gaps_rg l m).2
  refine (DS.tup (ds_map (gaps l m) (k := 84) (d := gapD) fun q hq => ?_)).more (by omega)
  have := rg q hq
  exact DS.tup ((DSs.cons (DS.int (k := 41) (by omega) (Nat.le_refl _)) (DSs.cons (DS.int (k := 41) (by omega) (Nat.le_refl _)) (DSs.nil (k := 0)))).more (by omega))
theorem ln_dsk {h : EH} : ∀ {l : LKV}, (∀ q ∈ l, q.1 < 200 ∧ 0 ≤ q.2 ∧ q.2 ≤ 2000000000) → DSK h (200 * l.length) (lnKV l) (lnD l)
  | [], _ => DSK.nil
  | q :: l, rg => by
    obtain ⟨h1, h2, h3⟩ := rg q List.mem_cons_self
    have z := ln_dsk (h := h) (l := l) fun x hx => rg x (List.mem_cons_of_mem _ hx)
    have y := DSK.int (i := (q.1 : Nat)) (n := 0) (by omega) (DS.int (h := h) (n := 0) (i := q.2) (k := 41) (by omega) (by omega)) (by omega) (by simp [flatD]) z
    refine ⟨y.1, y.2.1, y.2.2.1, Nat.le_trans y.2.2.2 ?_⟩
    simp only [List.length_cons]
    omega
theorem ln_dse {h : EH} {r : Nat} {l ys : LKV} {n : Option Nat} (ok : LOk l n) (s : Srt l ys) (e : h[r]? = some (.dic (lnKV ys))) : DSE h 20000 (.ref r) (dicD (lnD ys)) := by
  have z := (ln_dsk (h := h) (l := ys) fun q hq => ok.rg q (s.1.mem_iff.mp hq)).dic e
  refine ⟨z.1, z.2.1, z.2.2.1, Nat.le_trans z.2.2.2 ?_⟩
  have := ok.sz
  rw [s.1.length_eq]
  omega
theorem DSE.x {h : EH} {k : Nat} {v : EV} {d : PyData} (x : DSE h k v d) : DSX h k v d := ⟨.el x.1, x.2⟩
theorem dAll_ln {l : LKV} (nd : (lkeys l).Nodup) : dAll (lnKV l) = lnKV l := by
  have key : ∀ ys acc : LKV, acc ++ ys = l → (lnKV ys).foldl (fun acc p => dPut acc p.1 p.2) (lnKV acc) = lnKV l := by
    intro ys
    induction ys with
    | nil => intro acc e; rw [List.append_nil] at e; rw [e]; rfl
    | cons x ys ih =>
      intro acc e
      show (lnKV ys).foldl _ (dPut (lnKV acc) (.int (x.1 : Nat)) (.int x.2)) = _
      have hk : lput acc x.1 x.2 = acc ++ [x] := by
        unfold lput
        rw [if_neg]
        rw [lk_isSome]
        intro z
        rw [← e] at nd
        simp only [List.map_append, List.map_cons] at nd
        rw [List.nodup_append] at nd
        exact nd.2.2 _ z x.1 (by simp) rfl
      rw [ln_put, hk]
      exact ih _ (by rw [← e]; simp)
  exact key l [] rfl
theorem prsE_ln (l : LKV) : prsE (l.map fun q => .tup [.int (q.1 : Nat), .int q.2]) = some (lnKV l) := by
  induction l with
  | nil => rfl
  | cons q l ih => rw [List.map_cons, prsE, ih]; rfl
theorem srt_dict {env : En} {h : EH} {P : EK} {k ks j : Nat} {l : LKV} (e : h[k]? = some (.dic (lnKV l))) (nd : (lkeys l).Nodup) (sz : l.length < 64) (ek : env[ks]? = some (some (.ref k)))
    (h1 : ∀ v, ((wipeE env [j]).set j (some v))[ks]? = some (some (.ref k))) (h2 : ∀ v, ((wipeE env [j]).set j (some v))[j]? = some (some v))
    (fin : ∀ ys r h', Srt l ys → Keep no1 h h' → h.length ≤ r → h'[r]? = some (.dic (lnKV ys)) → P (.ref r) h') :
    lCB dictE (lCons (lLc (lIt (lCB sortE (lCons (lVar ks) (lNil)))) (.nm j) (lYes) (lTup (lCons (lVar j) (lCons (lOp ixA (lVar ks) (lVar j)) (lNil)))) [j]) (lNil)) env h P := by
  simp only [lCB, lCons, lNil, lLc, lIt, lVar, ek, sortE, e]
  refine ⟨(lkeys l).map fun (i : Nat) => (i : Int), by rw [ln_keys]; exact (List.map_map ..).symm, by simpa using sz, fun ys py sy => ?_⟩
  obtain ⟨zs, sz', rfl⟩ := srt_of nd py sy
  simp only [new_at]
  rw [List.map_map]
  have nz : (lkeys zs).Nodup := ((sz'.1.map (·.1)).nodup_iff).mpr nd
  generalize hh1 : h ++ [EO.lst ((lkeys zs).map (EV.int ∘ fun (i : Nat) => (i : Int)))] = hA
  have kA : Keep no1 h hA := by rw [← hh1]; exact Keep.app _
  have eA : hA[h.length]? = some (.lst ((lkeys zs).map (EV.int ∘ fun (i : Nat) => (i : Int)))) := by rw [← hh1]; exact new_at
  have lA : h.length < hA.length := by rw [← hh1]; simp
  refine lc_map (fun v => match v with
    | .int i => EV.tup [.int i, .int ((lk zs i.toNat).getD 0)]
    | _ => .non) _ (by rw [List.length_map, List.length_map, sz'.1.length_eq, sizeL]; omega) (fun acc => app_at eA _) (fun x hx acc ky hy => bind_nm ?_) ?_
  · obtain ⟨i, hi, rfl⟩ := List.mem_map.mp hx
    obtain ⟨q, hq, rfl⟩ := List.mem_map.mp hi
    simp only [lTup, lCons, lNil, lOp, lVar, h1, h2, Function.comp]
    have g1 : lk zs q.1 = some q.2 := (lk_mem nz).mp hq
    have g2 : lk l q.1 = some q.2 := (lk_mem nd).mp (sz'.1.mem_iff.mp hq)
    refine ia_d (app_at (kA.at e) _) (show isKey (.int (q.1 : Nat)) from trivial) (x := .int q.2) (by rw [ln_get, g2]; rfl) ⟨by simp [sizeL], ?_⟩
    simpa [g1] using hy
  · have em : ((lkeys zs).map (EV.int ∘ fun (i : Nat) => (i : Int))).map (fun v => match v with
      | .int i => EV.tup [.int i, .int ((lk zs i.toNat).getD 0)]
      | _ => .non) = zs.map fun q => EV.tup [.int (q.1 : Nat), .int q.2] := by
      rw [List.map_map]
      show List.map _ (List.map _ zs) = _
      rw [List.map_map]
      refine List.map_congr_left fun q hq => ?_
      have g1 : lk zs q.1 = some q.2 := (lk_mem nz).mp hq
      simp [g1]
    rw [em]
    simp only [dictE, new_at, prsE_ln]
    refine ⟨fun p hp => ?_, ?_⟩
    · obtain ⟨q, _, rfl⟩ := List.mem_map.mp hp
      exact trivial
    · rw [dAll_ln nz]
      exact fin zs _ _ sz' (kA.trans ((Keep.app _).trans (Keep.app _))) (by simp; omega) new_at
def sp__law_gaps (ad : Ad) : LSp := fun evs h Q => ∃ k l n, evs = [.ref k, lnE n] ∧ h[k]? = some (.dic (lnKV l)) ∧ LOk l n ∧ ∀ h', Keep no1 h h' → Q (.tup ((gaps l (lend l n)).map prE)) h'
def sp__law_head (ad : Ad) : LSp := fun evs h Q => ∃ k l, evs = [.ref k] ∧ h[k]? = some (.dic (lnKV l)) ∧ l.length ≤ 1000 ∧ ∀ xs h', IsHead l xs → Keep no1 h h' → Q (tx xs) h'
def sp__law_right (ad : Ad) : LSp := fun evs h Q => ∃ p d k l n, evs = [.ref p, .ref k, lnE n] ∧ LaneAt ad h p d l n ∧ h[k]? = some (.dic (lnKV l)) ∧ LOk l n ∧ ∀ h', Keep no1 h h' → Q (.bl true) h'
abbrev N__law_gaps : List Str := ["_law_known", "_law_length", "_law_end", "_law_found", "_law_begin", "_law_place", "_law_free"]
def t__law_gaps (ad : Ad) : LS :=
    lSeq (lSet (lCB maxE (lCons (lOp addE (lLockE (lLc (lKeys (lVar 0)) (.nm 5) (lYes) (lOp addE (lVar 5) (lC (.int 1))) [5])) (lLst (lCons (lOrT (lVar 1) (lC (.int 0))) (lNil)))) (lNil))) 2) <|
    lSeq (lPar 3 4 (lCons (lLst (lNil)) (lCons (lC .non) (lNil)))) <|
    lSeq (lFor (lRng1 (lCons (lOp addE (lVar 2) (lC (.int 1))) (lNil))) (.nm 5)
      (lSeq (lSet (lAndT (lOp ltE (lVar 5) (lVar 2)) (lOp (inA true) (lVar 5) (lVar 0))) 6) <|
    lIfS (lAnd (lT (lVar 6)) (lB (lOp (isN false) (lVar 4) (lC .non))))
      (lSet (lVar 5) 4)
      (lIfS (lAnd (lNot (lT (lVar 6))) (lB (lOp (isN true) (lVar 4) (lC .non))))
      (lSeq (lDrop (lBM "list" appendE (lVar 3) (lCons (lTup (lCons (lVar 4) (lCons (lVar 5) (lNil)))) (lNil)))) <|
    lSet (lC .non) 4)
      (lNext)))) <|
    lRet (lCB tupleOf (lCons (lVar 3) (lNil)))
abbrev N__law_head : List Str := ["_law_known", "_law_found", "_law_place"]
def t__law_head (ad : Ad) : LS :=
    lSeq (lSet (lLst (lNil)) 1) <|
    lSeq (lFor (lRng1 (lCons (lCB lenE (lCons (lVar 0) (lNil))) (lNil))) (.nm 2)
      (lSeq (lIfS (lB (lOp (inA true) (lVar 2) (lVar 0)))
      (lRet (lCB tupleOf (lCons (lVar 1) (lNil))))
      (lNext)) <|
    lDrop (lBM "list" appendE (lVar 1) (lCons (lOp ixA (lVar 0) (lVar 2)) (lNil))))) <|
    lRet (lCB tupleOf (lCons (lVar 1) (lNil)))
abbrev N__law_right : List Str := ["_law_lane", "_law_known", "_law_length", "_law_due", "_law_head_here", "_law_told", "_law_place"]
def t__law_right_7 (ad : Ad) : LS :=
    lRet (lCall (sp__law_alikeX ad) (lCons (lMet (List.lookup · [(ad.a_Lane, (sp_Lane_known ad))]) (lVar 0) lNil) (lCons (lVar 3) (lNil))))
def t__law_right_6 (ad : Ad) : LS :=
    lSeq (lDrop (lBM "dict" clearD (lMet (List.lookup · [(ad.a_Lane, (sp_Lane_known ad))]) (lVar 0) lNil) (lNil))) <| t__law_right_7 ad
def t__law_right_5 (ad : Ad) : LS :=
    lSeq (lIfS (lNot (lT (lCall (sp__law_alikeX ad) (lCons (lMet (List.lookup · [(ad.a_Lane, (sp_Lane_is_whole ad))]) (lVar 0) lNil) (lCons (lAndV (lOp (isN true) (lVar 2) (lC .non)) (lOp (eqE false) (lCB lenE (lCons (lVar 4) (lNil))) (lVar 2))) (lNil))))))
      (lRet (lC (.bl false)))
      (lNext)) <| t__law_right_6 ad
def t__law_right_4 (ad : Ad) : LS :=
    lSeq (lSetA (lVar 5) (lC (.int 99)) (lC (.int 5))) <| t__law_right_5 ad
def t__law_right_3 (ad : Ad) : LS :=
    lSeq (lSetA (lVar 5) (lC (.int 0)) (lC (.int 77))) <| t__law_right_4 ad
def t__law_right_2 (ad : Ad) : LS :=
    lSeq (lIfS (lNot (lT (lCall (sp__law_alikeX ad) (lCons (lLst (lCons (lMet (List.lookup · [(ad.a_Lane, (sp_Lane_head ad))]) (lVar 0) lNil) (lCons (lMet (List.lookup · [(ad.a_Lane, (sp_Lane_told_length ad))]) (lVar 0) lNil) (lCons (lVar 5) (lCons (lMet (List.lookup · [(ad.a_Lane, (sp_Lane_gaps ad))]) (lVar 0) lNil) (lNil)))))) (lCons (lLst (lCons (lVar 4) (lCons (lVar 2) (lCons (lVar 3) (lCons (lCall (sp__law_gaps ad) (lCons (lVar 1) (lCons (lVar 2) (lNil)))) (lNil)))))) (lNil))))))
      (lRet (lC (.bl false)))
      (lNext)) <| t__law_right_3 ad
def t__law_right_1 (ad : Ad) : LS :=
    lSeq (lPar 4 5 (lCons (lCall (sp__law_head ad) (lCons (lVar 1) (lNil))) (lCons (lMet (List.lookup · [(ad.a_Lane, (sp_Lane_known ad))]) (lVar 0) lNil) (lNil)))) <| t__law_right_2 ad
def t__law_right_0 (ad : Ad) : LS :=
    lSeq (lSet (lCB dictE (lCons (lLc (lIt (lCB sortE (lCons (lVar 1) (lNil)))) (.nm 6) (lYes) (lTup (lCons (lVar 6) (lCons (lOp ixA (lVar 1) (lVar 6)) (lNil)))) [6]) (lNil))) 3) <| t__law_right_1 ad
def t__law_right (ad : Ad) : LS :=
    lSeq (lSet (lCB dictE (lCons (lLc (lIt (lCB sortE (lCons (lVar 1) (lNil)))) (.nm 6) (lYes) (lTup (lCons (lVar 6) (lCons (lOp ixA (lVar 1) (lVar 6)) (lNil)))) [6]) (lNil))) 3) <|
    lSeq (lPar 4 5 (lCons (lCall (sp__law_head ad) (lCons (lVar 1) (lNil))) (lCons (lMet (List.lookup · [(ad.a_Lane, (sp_Lane_known ad))]) (lVar 0) lNil) (lNil)))) <|
    lSeq (lIfS (lNot (lT (lCall (sp__law_alikeX ad) (lCons (lLst (lCons (lMet (List.lookup · [(ad.a_Lane, (sp_Lane_head ad))]) (lVar 0) lNil) (lCons (lMet (List.lookup · [(ad.a_Lane, (sp_Lane_told_length ad))]) (lVar 0) lNil) (lCons (lVar 5) (lCons (lMet (List.lookup · [(ad.a_Lane, (sp_Lane_gaps ad))]) (lVar 0) lNil) (lNil)))))) (lCons (lLst (lCons (lVar 4) (lCons (lVar 2) (lCons (lVar 3) (lCons (lCall (sp__law_gaps ad) (lCons (lVar 1) (lCons (lVar 2) (lNil)))) (lNil)))))) (lNil))))))
      (lRet (lC (.bl false)))
      (lNext)) <|
    lSeq (lSetA (lVar 5) (lC (.int 0)) (lC (.int 77))) <|
    lSeq (lSetA (lVar 5) (lC (.int 99)) (lC (.int 5))) <|
    lSeq (lIfS (lNot (lT (lCall (sp__law_alikeX ad) (lCons (lMet (List.lookup · [(ad.a_Lane, (sp_Lane_is_whole ad))]) (lVar 0) lNil) (lCons (lAndV (lOp (isN true) (lVar 2) (lC .non)) (lOp (eqE false) (lCB lenE (lCons (lVar 4) (lNil))) (lVar 2))) (lNil))))))
      (lRet (lC (.bl false)))
      (lNext)) <|
    lSeq (lDrop (lBM "dict" clearD (lMet (List.lookup · [(ad.a_Lane, (sp_Lane_known ad))]) (lVar 0) lNil) (lNil))) <|
    lRet (lCall (sp__law_alikeX ad) (lCons (lMet (List.lookup · [(ad.a_Lane, (sp_Lane_known ad))]) (lVar 0) lNil) (lCons (lVar 3) (lNil))))
theorem len__law_gaps (ad : Ad) (evs : List EV) (h : EH) (Q : EK) (q : sp__law_gaps ad evs h Q) : evs.length = ["_law_known", "_law_length"].length := by
  obtain ⟨_, _, _, rfl, _⟩ := q; rfl
theorem len__law_head (ad : Ad) (evs : List EV) (h : EH) (Q : EK) (q : sp__law_head ad evs h Q) : evs.length = ["_law_known"].length := by
  obtain ⟨_, _, rfl, _⟩ := q; rfl
theorem len__law_right (ad : Ad) (evs : List EV) (h : EH) (Q : EK) (q : sp__law_right ad evs h Q) : evs.length = ["_law_lane", "_law_known", "_law_length"].length := by
  obtain ⟨_, _, _, _, _, rfl, _⟩ := q; rfl
theorem pure__law_head (ad : Ad) (evs : List EV) (h : EH) (Q : EK) (q : sp__law_head ad evs h Q) : t__law_head ad (endsOf Q) (startE N__law_head evs) h := by
  obtain ⟨k, l, rfl, e, hl, q⟩ := q
  show t__law_head ad (endsOf Q) [some (.ref k), none, none] h
  unfold t__law_head
  rw [lSeq, lSet]
  simp only [lSet, lRet, lRetN, lDrop, lOp, lVar, lC, lB, lT, lAnd, lOr, lNot, lIf, lAndV, lOrV, lNotV, lNil, lCons, lTup, lLst, lCB, lBM, lSl, lPart, lNext, lIt, lRng1, lRng2, lAsg, lPar, lSetI, lSetA, lAugS, lLc, lZip, lNeg, lCall, lChain, List.getElem?_cons_zero, List.getElem?_cons_succ, List.set_cons_zero, List.set_cons_succ, wipeE, intP, intE, List.length_nil]
  refine ⟨by rw [sizeL]; decide, ?_⟩
  rw [lSeq, lFor]
  have hlen : (lnKV l).length = l.length := by simp [lnKV]
  simp only [lSet, lRet, lRetN, lDrop, lOp, lVar, lC, lB, lT, lAnd, lOr, lNot, lIf, lAndV, lOrV, lNotV, lNil, lCons, lTup, lLst, lCB, lBM, lSl, lPart, lNext, lIt, lRng1, lRng2, lAsg, lPar, lSetI, lSetA, lAugS, lLc, lZip, lNeg, lCall, lChain, List.getElem?_cons_zero, List.getElem?_cons_succ, List.set_cons_zero, List.set_cons_succ, wipeE, intP, intE, lenE, app_at e [EO.lst []], hlen]
  refine ⟨⟨by omega, by omega⟩, ?_⟩
  refine loop_nat l.length (fun i env h' => ∃ (x2 : Option EV) (xs : List Int), env = [some (.ref k), some (.ref h.length), x2] ∧ Keep no1 h h' ∧ h'[h.length]? = some (.lst (xs.map EV.int)) ∧ xs.length = i ∧ ∀ j, j < xs.length → lk l j = xs[j]?) ?_ ?_ _ _ ⟨none, [], rfl, Keep.app _, new_at, rfl, fun i hi => absurd hi (Nat.not_lt_zero _)⟩
  · rintro env h' ⟨x2, xs, rfl, kp, e1, lx, hx⟩
    refine ⟨trivial, ?_⟩
    simp only [lSeq, lSet, lRet, lRetN, lDrop, lIfS, lOp, lVar, lC, lB, lT, lAnd, lOr, lNot, lIf, lAndV, lOrV, lNotV, lNil, lCons, lTup, lLst, lCB, lBM, lSl, lPart, lNext, lFor, lIt, lRng1, lRng2, lAsg, lPar, lSetI, lSetA, lAugS, lLc, lZip, lNeg, lCall, lChain, List.getElem?_cons_zero, List.getElem?_cons_succ, List.set_cons_zero, List.set_cons_succ, truE, wipeE, intP, intE, tupleOf, e1]
    refine q xs h' ⟨hx, ?_⟩ kp
    cases hk : lk l xs.length with
    | none => rfl
    | some x =>
      exfalso
      have := head_len (l := l) (n := xs.length + 1) fun i hi => by
        by_cases c : i < xs.length
        · rw [hx i c, List.getElem?_eq_getElem c]; rfl
        · have : i = xs.length := by omega
          rw [this, hk]; rfl
      omega
  · rintro i env h' kk hi ⟨x2, xs, rfl, kp, e1, lx, hx⟩ hk
    refine ⟨trivial, bind_nm ?_⟩
    have e' := kp.at e
    simp only [lSeq, lSet, lRet, lRetN, lDrop, lIfS, lOp, lVar, lC, lB, lT, lAnd, lOr, lNot, lIf, lAndV, lOrV, lNotV, lNil, lCons, lTup, lLst, lCB, lBM, lSl, lPart, lNext, lFor, lIt, lRng1, lRng2, lAsg, lPar, lSetI, lSetA, lAugS, lLc, lZip, lNeg, lCall, lChain, List.getElem?_cons_zero, List.getElem?_cons_succ, List.set_cons_zero, List.set_cons_succ, truE, wipeE, intP, intE, inA, e', isKey, true_and, ln_has]
    cases hk2 : lk l i with
    | none =>
      simp only [Option.isSome_none, Bool.xor_false, if_true, tupleOf, e1]
      exact q xs h' ⟨hx, by rw [lx]; exact hk2⟩ kp
    | some x =>
      simp only [Option.isSome_some, Bool.xor_true, Bool.not_true, Bool.false_eq_true, if_false]
      refine ⟨isTy_l e1, ?_⟩
      refine ia_d e' (show isKey (.int (i : Nat)) from trivial) (x := .int x) (by rw [ln_get, hk2]; rfl) ?_
      refine app_f e1 (by rw [List.length_map, sizeL]; omega) ?_
      refine hk _ _ ⟨_, xs ++ [x], rfl, kp.fresh (Nat.le_refl _), by rw [set_at e1, List.map_append]; rfl, by simp [lx], fun j hj => ?_⟩
      by_cases c : j < xs.length
      · rw [List.getElem?_append_left c]; exact hx j c
      · have : j = xs.length := by simp at hj; omega
        subst this
        simp [lx, hk2]
theorem pure__law_gaps (ad : Ad) (evs : List EV) (h : EH) (Q : EK) (q : sp__law_gaps ad evs h Q) : t__law_gaps ad (endsOf Q) (startE N__law_gaps evs) h := by
  obtain ⟨k, l, n, rfl, e, ok, q⟩ := q
  show t__law_gaps ad (endsOf Q) [some (.ref k), some (lnE n), none, none, none, none, none] h
  unfold t__law_gaps
  rw [lSeq, lSet]
  simp only [lCB, lCons, lNil, lOp]
  refine lock_lc [5] e (by have := ok.sz; omega) (fun i => some (.int ((i : Int) + 1))) (fun od l0 P p' => ?_) (fun x hx h1 ky kn hy hn => ?_) fun h1 k1 lt e1 => ?_
  · exact p'
  · simp only [lYes, if_true, lSeq, lSet, lRet, lRetN, lDrop, lIfS, lOp, lVar, lC, lB, lT, lAnd, lOr, lNot, lIf, lAndV, lOrV, lNotV, lNil, lCons, lTup, lLst, lCB, lBM, lSl, lPart, lNext, lFor, lIt, lRng1, lRng2, lAsg, lPar, lSetI, lSetA, lAugS, lLc, lZip, lNeg, lCall, lChain, List.getElem?_cons_zero, List.getElem?_cons_succ, List.set_cons_zero, List.set_cons_succ, truE, wipeE, intP, intE, wipeE]
    exact add_i (hy _ rfl)
  · have eo : ∀ (P : EK) (h : EH), P (.int ((n.getD 0 : Nat) : Int)) h → lOrT (lVar 1) (lC (.int 0)) [some (.ref k), some (lnE n), none, none, none, none, none] h P := by
      intro P h p
      simp only [lOrT, lVar, lC, List.getElem?_cons_zero, List.getElem?_cons_succ]
      cases n with
      | none => simpa [lnE, truE] using p
      | some m =>
        simp only [lnE, truE]
        by_cases c : m = 0
        · subst c; simpa using p
        · have : (((m : Nat) : Int) != 0) = true := by simp; omega
          rw [this]
          simpa using p
    simp only [lLst, lCons, lNil]
    refine eo _ _ ⟨by simp [sizeL], ?_⟩
    have ee : (lkeys l).filterMap (fun (i : Nat) => some (EV.int ((i : Int) + 1))) ++ [EV.int ((n.getD 0 : Nat) : Int)] = ((l.map fun q => ((q.1 : Int) + 1)) ++ [((n.getD 0 : Nat) : Int)]).map EV.int := by
      rw [List.filterMap_eq_map', List.map_map, List.map_append, List.map_map]; rfl
    have hsz := ok.sz
    refine add_l (app_at e1 _) new_at (by rw [List.filterMap_eq_map', List.length_map, List.length_map, sizeL]; simp; omega) ?_
    rw [ee]
    have k2 := k1.trans ((Keep.app [EO.lst [EV.int ((n.getD 0 : Nat) : Int)]]).trans (Keep.app [EO.lst (((l.map fun q => ((q.1 : Int) + 1)) ++ [((n.getD 0 : Nat) : Int)]).map EV.int)]))
    simp only [maxE, new_at]
    refine ⟨_, rfl, by simp, fun m hm hy => ?_⟩
    have hle : lend l n = max (ltop l) (n.getD 0) := by
      cases n with
      | none => simp [lend]
      | some m => exact (Nat.max_eq_right (ltop_le.mpr (ok.le m rfl).2)).symm
    have em : m = (lend l n : Nat) := by
      rw [hle]
      have h2 : ((n.getD 0 : Nat) : Int) ≤ m := hy _ (by simp)
      have h1 : (ltop l : Int) ≤ m := by
        rcases ltop_mem l with ⟨_, e⟩ | ⟨q, hq, e⟩
        · rw [e]; omega
        · rw [e]
          have := hy ((q.1 : Int) + 1) (List.mem_append_left _ (List.mem_map.mpr ⟨q, hq, rfl⟩))
          omega
      rcases List.mem_append.mp hm with hm | hm
      · obtain ⟨q, hq, rfl⟩ := List.mem_map.mp hm
        have := ltop_le.mp (Nat.le_refl (ltop l)) q hq
        omega
      · have := List.mem_singleton.mp hm
        omega
    subst em
    have hN : lend l n ≤ 1000 := by
      rw [hle]
      have := ltop_le (l := l) (m := 200) |>.mpr fun q hq => (ok.rg q hq).1
      cases n with
      | none => simp; omega
      | some m => have := (ok.le m rfl).1; simp; omega
    generalize hA : h1 ++ [EO.lst [EV.int ((n.getD 0 : Nat) : Int)]] ++ [EO.lst (((l.map fun q => ((q.1 : Int) + 1)) ++ [((n.getD 0 : Nat) : Int)]).map EV.int)] = h2
    have k2 : Keep no1 h h2 := by rw [← hA, List.append_assoc]; exact k1.trans (Keep.app _)
    clear hA e1 lt ee k1 hm hy eo
    generalize lend l n = N at *
    have e2 := k2.at e
    simp only [List.set_cons_zero, List.set_cons_succ]
    rw [lSeq, lPar]
    simp only [lSet, lRet, lRetN, lDrop, lOp, lVar, lC, lB, lT, lAnd, lOr, lNot, lIf, lAndV, lOrV, lNotV, lNil, lCons, lTup, lLst, lCB, lBM, lSl, lPart, lNext, lIt, lRng1, lRng2, lAsg, lPar, lSetI, lSetA, lAugS, lLc, lZip, lNeg, lCall, lChain, List.getElem?_cons_zero, List.getElem?_cons_succ, List.set_cons_zero, List.set_cons_succ, wipeE, intP, intE, List.length_nil]
    refine ⟨by rw [sizeL]; decide, ?_⟩
    rw [lSeq, lFor]
    simp only [lSet, lRet, lRetN, lDrop, lOp, lVar, lC, lB, lT, lAnd, lOr, lNot, lIf, lAndV, lOrV, lNotV, lNil, lCons, lTup, lLst, lCB, lBM, lSl, lPart, lNext, lIt, lRng1, lRng2, lAsg, lPar, lSetI, lSetA, lAugS, lLc, lZip, lNeg, lCall, lChain, List.getElem?_cons_zero, List.getElem?_cons_succ, List.set_cons_zero, List.set_cons_succ, wipeE, intP, intE, addE, intP]
    have k3 := k2.trans (Keep.app [EO.lst []])
    refine ⟨⟨by omega, by omega⟩, ?_⟩
    rw [show ((N : Int) + 1).toNat = N + 1 by omega]
    have inv0 : ∀ i : Nat, i ≤ N → i < N + 1 := fun i hi => by omega
    refine loop_nat (N + 1) (fun i env h' => ∃ (x5 x6 : Option EV) (s : GS), env = [some (.ref k), some (lnE n), some (.int N), some (.ref h2.length), some (lnE s.2), x5, x6] ∧ Keep no1 h h' ∧ h2.length < h'.length ∧ h'[h2.length]? = some (.lst (s.1.map prE)) ∧ s = (if i ≤ N then gfold l i else (gaps l N, none))) ?_ ?_ _ _ ⟨none, none, ([], none), rfl, k3, by simp, new_at, by rw [if_pos (Nat.zero_le _)]; rfl⟩
    · rintro env h' ⟨x5, x6, s, rfl, k4, l4, e4, es⟩
      rw [if_neg (by omega)] at es
      subst es
      refine ⟨trivial, ?_⟩
      simp only [lSeq, lSet, lRet, lRetN, lDrop, lIfS, lOp, lVar, lC, lB, lT, lAnd, lOr, lNot, lIf, lAndV, lOrV, lNotV, lNil, lCons, lTup, lLst, lCB, lBM, lSl, lPart, lNext, lFor, lIt, lRng1, lRng2, lAsg, lPar, lSetI, lSetA, lAugS, lLc, lZip, lNeg, lCall, lChain, List.getElem?_cons_zero, List.getElem?_cons_succ, List.set_cons_zero, List.set_cons_succ, truE, wipeE, intP, intE, tupleOf, e4]
      exact q h' k4
    · rintro i env h' kk hi ⟨x5, x6, s, rfl, k4, l4, e4, es⟩ hk
      rw [if_pos (by omega)] at es
      refine ⟨trivial, bind_nm ?_⟩
      have e5 := k4.at e
      have rg := gfold_rg l i
      have hk2 : ∀ s', s' = (if i + 1 ≤ N then gfold l (i + 1) else (gaps l N, none)) → ∀ x5 x6 h', Keep no1 h h' → h2.length < h'.length → h'[h2.length]? = some (.lst (s'.1.map prE)) → kk [some (.ref k), some (lnE n), some (.int N), some (.ref h2.length), some (lnE s'.2), x5, x6] h' := fun s' es x5 x6 h' a b c => hk _ _ ⟨x5, x6, s', rfl, a, b, c, es⟩
      clear hk
      simp only [List.set_cons_zero, List.set_cons_succ]
      have hl : (s.1.map prE).length < sizeLine := by
        rw [es, List.length_map, sizeL]
        have := rg.1
        omega
      by_cases c : i < N
      · rw [if_pos (by omega), gfold_succ] at hk2
        rw [← es] at hk2
        unfold gstep at hk2
        rw [lSeq, lSet]
        have c2 : (i : Int) < N := by omega
        simp only [lSet, lRet, lRetN, lDrop, lOp, lVar, lC, lB, lT, lAnd, lOr, lNot, lIf, lAndV, lOrV, lNotV, lNil, lCons, lTup, lLst, lCB, lBM, lSl, lPart, lNext, lIt, lRng1, lRng2, lAsg, lPar, lSetI, lSetA, lAugS, lLc, lZip, lNeg, lCall, lChain, List.getElem?_cons_zero, List.getElem?_cons_succ, List.set_cons_zero, List.set_cons_succ, wipeE, intP, intE, lAndT, ltE, intP, c2, decide_true, truE, if_true, inA, e5, isKey, true_and, ln_has]
        obtain ⟨f, bb⟩ := s
        cases hs : (lk l i).isSome
        · rw [hs] at hk2
          simp only [Bool.xor_false, lSeq, lSet, lRet, lRetN, lDrop, lIfS, lOp, lVar, lC, lB, lT, lAnd, lOr, lNot, lIf, lAndV, lOrV, lNotV, lNil, lCons, lTup, lLst, lCB, lBM, lSl, lPart, lNext, lFor, lIt, lRng1, lRng2, lAsg, lPar, lSetI, lSetA, lAugS, lLc, lZip, lNeg, lCall, lChain, List.getElem?_cons_zero, List.getElem?_cons_succ, List.set_cons_zero, List.set_cons_succ, truE, wipeE, intP, intE, lT, truE, if_true]
          cases bb with
          | none =>
            simp only [lnE, isN, Bool.not_false, if_true]
            exact hk2 (f, some i) rfl _ _ _ k4 l4 e4
          | some b =>
            simp only [lnE, isN, Bool.not_false, if_true, Bool.false_eq_true, if_false, Bool.not_true]
            exact hk2 (f, some b) rfl _ _ _ k4 l4 e4
        · rw [hs] at hk2
          simp only [Bool.xor_true, Bool.not_true, lSeq, lSet, lRet, lRetN, lDrop, lIfS, lOp, lVar, lC, lB, lT, lAnd, lOr, lNot, lIf, lAndV, lOrV, lNotV, lNil, lCons, lTup, lLst, lCB, lBM, lSl, lPart, lNext, lFor, lIt, lRng1, lRng2, lAsg, lPar, lSetI, lSetA, lAugS, lLc, lZip, lNeg, lCall, lChain, List.getElem?_cons_zero, List.getElem?_cons_succ, List.set_cons_zero, List.set_cons_succ, truE, wipeE, intP, intE, lT, truE, Bool.false_eq_true, if_false, Bool.not_false, if_true]
          cases bb with
          | none =>
            simp only [lnE, isN, Bool.not_true, Bool.false_eq_true, if_false]
            exact hk2 (f, none) rfl _ _ _ k4 l4 e4
          | some b =>
            simp only [lnE, isN, if_true]
            refine ⟨isTy_l e4, by simp [sizeL], ?_⟩
            refine app_f e4 hl ?_
            refine hk2 (f ++ [(b, i)], none) rfl _ _ _ (k4.fresh k2.1) (by simpa using l4) ?_
            rw [set_at e4, List.map_append]; rfl
      · have ei : i = N := by omega
        subst ei
        rw [if_neg (by omega)] at hk2
        rw [lSeq, lSet]
        have c2 : ¬ (i : Int) < i := by omega
        simp only [lSet, lRet, lRetN, lDrop, lOp, lVar, lC, lB, lT, lAnd, lOr, lNot, lIf, lAndV, lOrV, lNotV, lNil, lCons, lTup, lLst, lCB, lBM, lSl, lPart, lNext, lIt, lRng1, lRng2, lAsg, lPar, lSetI, lSetA, lAugS, lLc, lZip, lNeg, lCall, lChain, List.getElem?_cons_zero, List.getElem?_cons_succ, List.set_cons_zero, List.set_cons_succ, wipeE, intP, intE, lAndT, ltE, intP, c2, decide_false, truE, Bool.false_eq_true, if_false, lSeq, lSet, lRet, lRetN, lDrop, lIfS, lOp, lVar, lC, lB, lT, lAnd, lOr, lNot, lIf, lAndV, lOrV, lNotV, lNil, lCons, lTup, lLst, lCB, lBM, lSl, lPart, lNext, lFor, lIt, lRng1, lRng2, lAsg, lPar, lSetI, lSetA, lAugS, lLc, lZip, lNeg, lCall, lChain, List.getElem?_cons_zero, List.getElem?_cons_succ, List.set_cons_zero, List.set_cons_succ, truE, wipeE, intP, intE, lT, Bool.not_false, if_true]
        unfold gaps at hk2
        rw [← es] at hk2
        obtain ⟨f, bb⟩ := s
        cases bb with
        | none =>
          simp only [lnE, isN, Bool.not_true, Bool.false_eq_true, if_false]
          exact hk2 (f, none) rfl _ _ _ k4 l4 e4
        | some b =>
          simp only [lnE, isN, if_true]
          refine ⟨isTy_l e4, by simp [sizeL], ?_⟩
          refine app_f e4 hl ?_
          refine hk2 (f ++ [(b, i)], none) rfl _ _ _ (k4.fresh k2.1) (by simpa using l4) ?_
          rw [set_at e4, List.map_append]; rfl
end Y

namespace Y
open PySem PySem.Spec PyProof.Rows L2

theorem met0_lane {ad : Ad} {h : EH} {p d : Nat} {l : LKV} {n : Option Nat} {sp : LSp} {env : En} {P : EK} (z : LaneAt ad h p d l n) (q : sp [.ref p] h P) : metK (List.lookup · [(ad.a_Lane, sp)]) lNil env P (.ref p) h := by
  simp only [metK, z.o, List.lookup_cons, beq_self_eq_true, lNil]
  exact q
def tellD (xs : List Int) (n : Option Nat) (ys : LKV) (g : List (Nat × Nat)) : List PyData := [.tuple (xs.map PyData.int), lnED n, dicD (lnD ys), .tuple (g.map gapD)]
theorem tell_ds {h : EH} {r R : Nat} {l ys : LKV} {n : Option Nat} {xs : List Int} (ok : LOk l n) (zx : IsHead l xs) (sy : Srt l ys) (eR : h[R]? = some (.dic (lnKV ys))) (er : h[r]? = some (.lst [tx xs, lnE n, .ref R, .tup ((gaps l (lend l n)).map prE)])) :
    DSX h 200000 (.ref r) (.list (tellD xs n ys (gaps l (lend l n)))) := by
  have hx := zx.len
  have sz := ok.sz
  have hN : lend l n ≤ 1000 := by
    have := ltop_le (l := l) (m := 200) |>.mpr fun q hq => (ok.rg q hq).1
    cases n with
    | none => simp [lend]; omega
    | some m => have := (ok.le m rfl).1; simp [lend]; omega
  have a1 : DSE h 5000 (tx xs) (.tuple (xs.map PyData.int)) := ((smL_ds (n := 0) (ok.sm zx)).more (by omega)).e (by omega)
  have a2 : DSE h 41 (lnE n) (lnED n) := (lnE_ds (n := 0) (fun j hj => (ok.le j hj).1) (Nat.le_refl _)).e (by omega)
  have a3 := ln_dse ok sy eR
  have gl := (gaps_rg l (lend l n)).1
  have a4 : DSE h 110000 (.tup ((gaps l (lend l n)).map prE)) (.tuple ((gaps l (lend l n)).map gapD)) := ((gaps_ds (n := 0) hN).more (by omega)).e (by omega)
  have := DSE.lst er (DSEs.cons a1 (DSEs.cons a2 (DSEs.cons a3 (DSEs.cons a4 (DSEs.nil (k := 0))))))
  exact ⟨this.1, this.2.1, this.2.2.1, Nat.le_trans this.2.2.2 (by omega)⟩
theorem bl_dsx {h : EH} {b : Bool} : DSX h 41 (.bl b) (.bool b) := (DS.bl (h := h) (n := 0)).x (by omega)
theorem lanePut {ad : Ad} {h : EH} {p d r : Nat} {l : LKV} {n : Option Nat} {o : EO} (z : LaneAt ad h p d l n) (a : p ≠ r) (b : d ≠ r) : LaneAt ad (h.set r o) p d l n := ⟨set_off z.o a, set_off z.d b⟩
theorem lane_lt {ad : Ad} {h : EH} {p d : Nat} {l : LKV} {n : Option Nat} (z : LaneAt ad h p d l n) : p < h.length ∧ d < h.length := ⟨lt_of_at z.o, lt_of_at z.d⟩
theorem pure__law_right (ad : Ad) (evs : List EV) (h : EH) (Q : EK) (q : sp__law_right ad evs h Q) : t__law_right ad (endsOf Q) (startE N__law_right evs) h := by
  obtain ⟨p, d, k, l, n, rfl, z, e, ok, q⟩ := q
  show t__law_right_0 ad (endsOf Q) [some (.ref p), some (.ref k), some (lnE n), none, none, none, none] h
  unfold t__law_right_0
  rw [lSeq, lSet]
  refine srt_dict e ok.nd ok.sz rfl (fun _ => rfl) (fun _ => rfl) fun ys R3 h1 sy k1 l1 e1 => ?_
  simp only [List.set_cons_zero, List.set_cons_succ]
  unfold t__law_right_1
  rw [lSeq, lPar]
  simp only [lCall, lCons, lNil, lVar, lMet, List.getElem?_cons_zero, List.getElem?_cons_succ]
  refine ⟨k, l, rfl, k1.at e, by have := ok.sz; omega, fun xs h2 hx k2 => ?_⟩
  have z2 := (z.keep k1).keep k2
  refine met0_lane z2 ⟨p, d, l, n, rfl, z2, ok.nd, ok.sz, fun ys' R5 h3 sy' k3 l3 e3 => ?_⟩
  obtain rfl := Srt.uniq (.refl l) sy sy'
  have z3 := z2.keep k3
  have d3 := k3.at (k2.at e1)
  have ek3 := k3.at (k2.at (k1.at e))
  have kA : Keep no1 h h3 := k1.trans (k2.trans k3)
  have lh3 : h1.length ≤ R5 := Nat.le_trans k2.1 l3
  have zl := lane_lt z
  have kl := lt_of_at e
  have lR3 : R3 < h1.length := lt_of_at e1
  have lA : h.length ≤ R5 := Nat.le_trans k1.1 lh3
  simp only [List.set_cons_zero, List.set_cons_succ]
  clear z2 k1 k2 k3 l3 e1

  unfold t__law_right_2
  rw [lSeq, lIfS]
  simp only [lNot, lT, lCall, lCons, lNil, lLst, lMet, lVar, List.getElem?_cons_zero, List.getElem?_cons_succ]
  refine met0_lane z3 ⟨p, d, l, n, rfl, z3, by have := ok.sz; omega, fun xs' h4 hx' k4 => ?_⟩
  obtain rfl := hx.uniq hx'
  have z4 := z3.keep k4
  refine met0_lane z4 ⟨p, d, l, n, rfl, z4, ?_⟩
  refine met0_lane z4 ⟨p, d, l, n, rfl, z4, ok, fun h5 k5 => ?_⟩
  refine ⟨by simp [sizeL], ?_⟩
  have z5 := z4.keep k5
  have ek5 := k5.at (k4.at ek3)
  refine ⟨k, l, n, rfl, app_at ek5 _, ok, fun h6 k6 => ?_⟩
  refine ⟨by simp [sizeL], ?_⟩
  have e36 := k6.at (app_at (k5.at (k4.at e3)) [EO.lst [tx xs, lnE n, .ref R5, .tup ((gaps l (lend l n)).map prE)]])
  have d36 := k6.at (app_at (k5.at (k4.at d3)) [EO.lst [tx xs, lnE n, .ref R5, .tup ((gaps l (lend l n)).map prE)]])
  have g6 := k6.at (new_at (h := h5) (o := EO.lst [tx xs, lnE n, .ref R5, .tup ((gaps l (lend l n)).map prE)]))
  refine alikeX_ok (tell_ds ok hx sy (app_at e36 _) (app_at g6 _)) (tell_ds ok hx sy (app_at d36 _) new_at) (by omega) ?_
  have kB := kA.trans (k4.trans (k5.trans ((Keep.app _).trans (k6.trans (Keep.app [EO.lst [tx xs, lnE n, .ref R3, .tup ((gaps l (lend l n)).map prE)]])))))
  have z7 := z.keep kB
  have e7 := app_at e36 [EO.lst [tx xs, lnE n, .ref R3, .tup ((gaps l (lend l n)).map prE)]]
  have d7 := app_at d36 [EO.lst [tx xs, lnE n, .ref R3, .tup ((gaps l (lend l n)).map prE)]]
  generalize h6 ++ [EO.lst [tx xs, lnE n, .ref R3, .tup ((gaps l (lend l n)).map prE)]] = h7 at *
  clear z3 z4 z5 k4 k5 k6 e36 d36 g6 e3 d3 ek3 ek5 hx'
  simp only [truE, Bool.not_true, Bool.false_eq_true, if_false, lNext]
  -- the told dict is changed
  unfold t__law_right_3
  rw [lSeq, lSetA]
  have ly : (lnKV ys).length ≤ 64 := by
    have := sy.1.length_eq
    have := ok.sz
    simp [lnKV]; omega
  simp only [lC, lVar, List.getElem?_cons_zero, List.getElem?_cons_succ, setA, e7, isKey, true_and]
  refine ⟨by rw [sizeL]; omega, ?_⟩
  have hp1 : ∀ (kvs : List (EV × EV)) k v, (dPut kvs k v).length ≤ kvs.length + 1 := fun kvs k v => by unfold dPut dRep; split <;> simp
  have e8 := set_at (o := EO.dic (dPut (lnKV ys) (.int 0) (.int 77))) e7
  unfold t__law_right_4
  rw [lSeq, lSetA]
  simp only [lC, lVar, List.getElem?_cons_zero, List.getElem?_cons_succ, setA, e8, isKey, true_and]
  refine ⟨by have := hp1 (lnKV ys) (.int 0) (.int 77); rw [sizeL]; omega, ?_⟩
  have ne : R3 ≠ R5 := by omega
  have d9 := set_off (o := EO.dic (dPut (dPut (lnKV ys) (.int 0) (.int 77)) (.int 99) (.int 5))) (set_off (o := EO.dic (dPut (lnKV ys) (.int 0) (.int 77))) d7 ne) ne
  have z9 := lanePut (o := EO.dic (dPut (dPut (lnKV ys) (.int 0) (.int 77)) (.int 99) (.int 5))) (lanePut (o := EO.dic (dPut (lnKV ys) (.int 0) (.int 77))) z7 (show p ≠ R5 by omega) (show d ≠ R5 by omega)) (show p ≠ R5 by omega) (show d ≠ R5 by omega)
  have k9 := (kB.fresh (o := EO.dic (dPut (lnKV ys) (.int 0) (.int 77))) lA).fresh (o := EO.dic (dPut (dPut (lnKV ys) (.int 0) (.int 77)) (.int 99) (.int 5))) lA
  generalize (h7.set R5 (EO.dic (dPut (lnKV ys) (.int 0) (.int 77)))).set R5 (EO.dic (dPut (dPut (lnKV ys) (.int 0) (.int 77)) (.int 99) (.int 5))) = h9 at d9 z9 k9 ⊢
  clear e7 d7 z7 kB kA e8 ly hp1
  unfold t__law_right_5
  rw [lSeq, lIfS]
  simp only [lNot, lT, lCall, lCons, lNil, lMet, lVar, lOp, lC, lCB, List.getElem?_cons_zero, List.getElem?_cons_succ, lAndV]
  refine met0_lane z9 ⟨p, d, l, n, rfl, z9, ?_⟩
  have whole : ∀ (P : EK), P (.bl (decide (n = some l.length))) h9 → isN true (lnE n) .non h9 fun v h1 => match v with
      | .bl c => if c = true then lenE [tx xs] h1 fun x h1 => eqE false x (lnE n) h1 P else P (.bl false) h1
      | _ => False := by
    intro P p
    cases n with
    | none => simpa [lnE, isN] using p
    | some m =>
      simp only [lnE, isN, if_true, lenE, List.length_map, eqE, Bool.false_xor]
      have w := hx.whole ok.nd (ok.le m rfl).2
      have : decide ((xs.length : Int) = m) = decide (some m = some l.length) := decide_eq_decide.mpr ⟨fun z => by
        have : xs.length = m := by omega
        rw [w.mp this], fun z => by
        have : l.length = m := by simp at z; omega
        have := w.mpr this
        omega⟩
      rw [this]
      exact p
  refine whole _ ?_
  refine alikeX_ok bl_dsx bl_dsx (by omega) ?_
  simp only [truE, Bool.not_true, Bool.false_eq_true, if_false, lNext]
  unfold t__law_right_6
  rw [lSeq, lDrop]
  simp only [lBM, lMet, lVar, lNil, List.getElem?_cons_zero]
  refine met0_lane z9 ⟨p, d, l, n, rfl, z9, ok.nd, ok.sz, fun ys2 R6 h10 sy2 k10 l10 e10 => ?_⟩
  refine ⟨by simp only [isTy, e10], ?_⟩
  simp only [clearD, e10]
  have z11 := lanePut (o := EO.dic []) (z9.keep k10) (show p ≠ R6 by have := lane_lt z9; omega) (show d ≠ R6 by have := lane_lt z9; omega)
  have d11 := set_off (o := EO.dic []) (k10.at d9) (show R3 ≠ R6 by have := lt_of_at d9; omega)
  have k11 := (k9.trans k10).fresh (o := EO.dic []) (show h.length ≤ R6 from Nat.le_trans k9.1 l10)
  generalize h10.set R6 (EO.dic []) = h11 at z11 d11 k11 ⊢
  unfold t__law_right_7
  rw [lRet]
  simp only [lCall, lCons, lNil, lMet, lVar, List.getElem?_cons_zero, List.getElem?_cons_succ]
  refine met0_lane z11 ⟨p, d, l, n, rfl, z11, ok.nd, ok.sz, fun ys3 R7 h12 sy3 k12 l12 e12 => ?_⟩
  obtain rfl := Srt.uniq (.refl l) sy sy3
  refine alikeX_ok (ln_dse ok sy e12).x (ln_dse ok sy (k12.at d11)).x (by omega) ?_
  exact q _ (k11.trans k12)
end Y

namespace Y
open PySem PySem.Spec PyProof.Rows L2

inductive Dd where
  | keep (n : Nat) | drop (n : Nat) | put (xs : List Int)
inductive Un where
  | k | d | p (x : Int)
abbrev sKeep : List Nat := [107, 101, 101, 112]
abbrev sDrop : List Nat := [100, 114, 111, 112]
abbrev sPut : List Nat := [112, 117, 116]
def Dd.e : Dd → EV
  | .keep n => .tup [.str sKeep, .int n]
  | .drop n => .tup [.str sDrop, .int n]
  | .put xs => .tup [.str sPut, tx xs]
def Un.e : Un → EV
  | .k => .tup [.str [107]]
  | .d => .tup [.str [100]]
  | .p x => .tup [.str [112], .int x]
def Dd.units : Dd → List Un
  | .keep n => List.replicate n .k
  | .drop n => List.replicate n .d
  | .put xs => xs.map .p
abbrev Delta := List Dd
def unitsD (D : Delta) : List Un := D.flatMap Dd.units
def Dd.w : Dd → Nat
  | .keep n => n
  | .drop n => n
  | .put _ => 0
def Dd.kind : Dd → Nat
  | .keep _ => 0
  | .drop _ => 1
  | .put _ => 2
def Dd.ok : Dd → Prop
  | .keep n => 1 ≤ n
  | .drop n => 1 ≤ n
  | .put xs => xs ≠ []
def LetOk (x : Int) : Prop := 0 ≤ x ∧ x ≤ 1000000000
def Proper : Delta → Prop
  | [] => True
  | [d] => d.ok
  | d :: e :: r => d.ok ∧ d.kind ≠ e.kind ∧ Proper (e :: r)
def AllOk (D : Delta) : Prop := ∀ d ∈ D, d.ok
theorem Proper.tail {d : Dd} {r : Delta} (h : Proper (d :: r)) : Proper r := by
  cases r with
  | nil => trivial
  | cons e r => exact h.2.2
theorem Proper.head {d : Dd} {r : Delta} (h : Proper (d :: r)) : d.ok := by
  cases r with
  | nil => exact h
  | cons e r => exact h.1
theorem Proper.all : ∀ {D : Delta}, Proper D → AllOk D
  | [], _ => fun d h => by cases h
  | d :: r, h => fun x hx => by
    rcases List.mem_cons.mp hx with rfl | hx
    · exact h.head
    · exact Proper.all h.tail x hx
theorem unitsD_cons (d : Dd) (D : Delta) : unitsD (d :: D) = d.units ++ unitsD D := by simp [unitsD]
def one : Un → Dd
  | .k => .keep 1
  | .d => .drop 1
  | .p x => .put [x]
def grow : Dd → Un → Option Dd
  | .keep n, .k => some (.keep (n + 1))
  | .drop n, .d => some (.drop (n + 1))
  | .put xs, .p x => some (.put (xs ++ [x]))
  | _, _ => none
def push : Delta → Un → Delta
  | [], u => [one u]
  | [d], u => match grow d u with
    | some e => [e]
    | none => [d, one u]
  | d :: e :: r, u => d :: push (e :: r) u
def packed (us : List Un) : Delta := us.foldl push []
def made : List Un → List Int → List Int
  | [], _ => []
  | .p x :: us, l => x :: made us l
  | .k :: us, a :: l => a :: made us l
  | .k :: us, [] => made us []
  | .d :: us, _ :: l => made us l
  | .d :: us, [] => made us []
def Dd.made (l : List Int) : Dd → List Int
  | .keep n => l.take n
  | .drop _ => []
  | .put xs => xs
def Dd.back (l : List Int) : Dd → Dd
  | .keep n => .keep n
  | .drop n => .put (l.take n)
  | .put xs => .drop xs.length
theorem units_pos {d : Dd} (ok : d.ok) : 1 ≤ d.units.length := by
  cases d with
  | keep n => simpa [Dd.units, Dd.ok] using ok
  | drop n => simpa [Dd.units, Dd.ok] using ok
  | put xs =>
    simp only [Dd.units, List.length_map]
    exact List.length_pos_iff.mpr ok
theorem lenUnits : ∀ {D : Delta}, AllOk D → D.length ≤ (unitsD D).length
  | [], _ => Nat.le_refl _
  | d :: D, h => by
    rw [unitsD_cons, List.length_append, List.length_cons]
    have := units_pos (h d List.mem_cons_self)
    have := lenUnits (D := D) fun x hx => h x (List.mem_cons_of_mem _ hx)
    omega
def LetU (us : List Un) : Prop := ∀ x, Un.p x ∈ us → LetOk x
def LetL (l : List Int) : Prop := ∀ x ∈ l, LetOk x
theorem tx_sml {n : Nat} {xs : List Int} (h : LetL xs) : Sml (n + 1) (tx xs) := by
  rw [tx, Sml]
  refine Smls.all fun v hv => ?_
  obtain ⟨x, hx, rfl⟩ := List.mem_map.mp hv
  have := h x hx
  rw [Sml]
  unfold LetOk at this
  omega
theorem tx_w (xs : List Int) : wE (tx xs) = 42 * xs.length := by
  rw [tx, wE]
  induction xs with
  | nil => rfl
  | cons x xs ih => rw [List.map_cons, wEs, ih, wE, List.length_cons]; omega
theorem deed_sml {n : Nat} {d : Dd} (ok : d.units.length ≤ 100000) (hl : LetU d.units) : Sml (n + 2) d.e := by
  cases d with
  | keep n =>
    simp only [Dd.units, List.length_replicate] at ok
    simp only [Dd.e, Sml, Smls]
    exact ⟨by simp [sKeep], by omega, trivial⟩
  | drop n =>
    simp only [Dd.units, List.length_replicate] at ok
    simp only [Dd.e, Sml, Smls]
    exact ⟨by simp [sDrop], by omega, trivial⟩
  | put xs =>
    rw [Dd.e, Sml, Smls, Smls, Smls]
    exact ⟨by rw [Sml]; simp [sPut], tx_sml fun x hx => hl x (by simp [Dd.units]; exact hx), trivial⟩
theorem deed_w {d : Dd} (ok : d.ok) : wE d.e + 1 ≤ 100 * d.units.length := by
  have := units_pos ok
  cases d with
  | keep n => simp only [Dd.e, wE, wEs, sKeep, List.length_cons, List.length_nil]; omega
  | drop n => simp only [Dd.e, wE, wEs, sDrop, List.length_cons, List.length_nil]; omega
  | put xs =>
    simp only [Dd.units, List.length_map] at this ⊢
    rw [Dd.e, wE, wEs, wEs, wEs, tx_w, wE]
    simp only [sPut, List.length_cons, List.length_nil]
    omega
theorem delta_w : ∀ {D : Delta}, AllOk D → wEs (D.map Dd.e) ≤ 100 * (unitsD D).length
  | [], _ => Nat.zero_le _
  | d :: D, h => by
    rw [List.map_cons, wEs, unitsD_cons, List.length_append]
    have := deed_w (h d List.mem_cons_self)
    have := delta_w (D := D) fun x hx => h x (List.mem_cons_of_mem _ hx)
    omega
theorem mem_units {D : Delta} {d : Dd} (h : d ∈ D) : d.units.length ≤ (unitsD D).length ∧ ∀ u ∈ d.units, u ∈ unitsD D := by
  induction D with
  | nil => cases h
  | cons e D ih =>
    rw [unitsD_cons, List.length_append]
    rcases List.mem_cons.mp h with rfl | h
    · exact ⟨by omega, fun u hu => List.mem_append_left _ hu⟩
    · have := ih h
      exact ⟨by omega, fun u hu => List.mem_append_right _ (this.2 u hu)⟩
theorem delta_ds {n : Nat} {h : EH} {D : Delta} (ok : AllOk D) (hn : (unitsD D).length ≤ 10000) (hl : LetU (unitsD D)) : DSs h (n + 2) 1000000 (D.map Dd.e) (pds (D.map Dd.e)) := by
  refine (Smls.ds (n + 2) (D.map Dd.e) (Smls.all fun v hv => ?_)).more (Nat.le_trans (delta_w ok) (by omega))
  obtain ⟨d, hd, rfl⟩ := List.mem_map.mp hv
  have := mem_units hd
  exact deed_sml (by omega) fun x hx => hl x (this.2 _ hx)
end Y

namespace Y
open PySem PySem.Spec PyProof.Rows L2

structure DlAt (h : EH) (r : Nat) (D : Delta) : Prop where
  at_ : h[r]? = some (.lst (D.map Dd.e))
  ok : AllOk D
  len : (unitsD D).length ≤ 1000
  lt : LetU (unitsD D)
theorem DlAt.keep {h h' : EH} {r : Nat} {D : Delta} (z : DlAt h r D) (k : Keep no1 h h') : DlAt h' r D := ⟨k.at z.at_, z.ok, z.len, z.lt⟩
theorem DlAt.dl {h : EH} {r : Nat} {D : Delta} (z : DlAt h r D) : D.length ≤ 1000 := Nat.le_trans (lenUnits z.ok) z.len
theorem DlAt.ds {n : Nat} {h : EH} {r : Nat} {D : Delta} (z : DlAt h r D) : DS h (n + 3) 1000000 (.ref r) (.list (pds (D.map Dd.e))) := DS.lst z.at_ (delta_ds z.ok (Nat.le_trans z.len (by decide)) z.lt)
def Dd.word : Dd → List Nat
  | .keep _ => sKeep
  | .drop _ => sDrop
  | .put _ => sPut
def Dd.what : Dd → EV
  | .keep n => .int n
  | .drop n => .int n
  | .put xs => tx xs
end Y

namespace Y
open PySem PySem.Spec PyProof.Rows L2

end Y

namespace Y
open PySem PySem.Spec PyProof.Rows L2

theorem cut_mid {α : Type} (xs : List α) (a n : Nat) : cut xs (some (a : Int)) (some ((a : Int) + (n : Int))) = (xs.drop a).take n := by
  rw [show (a : Int) + (n : Int) = ((a + n : Nat) : Int) by omega]
  unfold cut
  rw [HT.sIx_nat, HT.sIx_nat]
  by_cases ha : a ≤ xs.length
  · rw [Nat.min_eq_left ha]
    by_cases hb : a + n ≤ xs.length
    · rw [Nat.min_eq_left hb, Nat.add_sub_cancel_left]
    · rw [Nat.min_eq_right (by omega), List.take_of_length_le (by simp), List.take_of_length_le (by simp; omega)]
  · rw [Nat.min_eq_right (show xs.length ≤ a by omega), List.drop_length, List.drop_eq_nil_of_le (by omega)]
    simp
end Y

namespace Y
open PySem PySem.Spec PyProof.Rows L2

def pcL (t : List Int) (q : Nat × Nat) : List Int := (t.drop q.1).take q.2
theorem tx_cut (t : List Int) (a n : Nat) : cut (t.map EV.int) (some (a : Int)) (some ((a : Int) + (n : Int))) = (pcL t (a, n)).map EV.int := by
  rw [cut_mid, pcL, List.map_take, List.map_drop]
theorem lputs_app (l : LKV) (p : Nat) (a b : List Int) : lputs l p (a ++ b) = lputs (lputs l p a) (p + a.length) b := by
  induction a generalizing l p with
  | nil => rfl
  | cons x a ih =>
    rw [List.cons_append, lputs, ih, lputs, List.length_cons, show p + 1 + a.length = p + (a.length + 1) by omega]
structure SO (t : List Int) (l : LKV) (n : Option Nat) : Prop where
  nd : (lkeys l).Nodup
  lt : ∀ q ∈ l, t[q.1]? = some q.2
  n : n = none ∨ n = some t.length
theorem SO.le {t : List Int} {l : LKV} {n : Option Nat} (z : SO t l n) : ∀ q ∈ l, q.1 < t.length := fun q hq => (List.getElem?_eq_some_iff.mp (z.lt q hq)).1
theorem SO.len {t : List Int} {l : LKV} {n : Option Nat} (z : SO t l n) : l.length ≤ t.length := by
  have := sub_len (a := lkeys l) (b := List.range t.length) z.nd fun x hx => by
    obtain ⟨q, hq, rfl⟩ := List.mem_map.mp hx
    exact List.mem_range.mpr (z.le q hq)
  simpa using this
def Txt (t : List Int) : Prop := t.length ≤ 60 ∧ ∀ x ∈ t, 0 ≤ x ∧ x ≤ 1000000000
theorem SO.ok {t : List Int} {l : LKV} {n : Option Nat} (z : SO t l n) (T : Txt t) : LOk l n := by
  have hl := z.len
  have ht := T.1
  refine ⟨z.nd, fun q hq => ?_, by omega, fun m hm => ?_⟩
  · have h1 := z.le q hq
    have h2 := T.2 q.2 (List.mem_of_getElem? (z.lt q hq))
    omega
  · rcases z.n with e | e
    · rw [e] at hm; cases hm
    · rw [e] at hm; cases hm
      exact ⟨by omega, z.le⟩
theorem SO.lk {t : List Int} {l : LKV} {n : Option Nat} (z : SO t l n) {i : Nat} {x : Int} (e : lk l i = some x) : t[i]? = some x := z.lt (i, x) ((lk_mem z.nd).mpr e)
theorem pcL_at {t : List Int} {q : Nat × Nat} {i : Nat} {x : Int} (e : (pcL t q)[i]? = some x) : t[q.1 + i]? = some x := by
  unfold pcL at e
  rw [List.getElem?_take] at e
  split at e
  · rwa [List.getElem?_drop] at e
  · cases e
theorem pcL_len (t : List Int) (q : Nat × Nat) : (pcL t q).length = min q.2 (t.length - q.1) := by
  unfold pcL
  rw [List.length_take, List.length_drop]
abbrev Cal := Option (Nat × Nat)
def nxL (t : List Int) (l : LKV) : Cal → LKV
  | none => l
  | some q => lputs l q.1 (pcL t q)
def nxN (t : List Int) (n : Option Nat) : Cal → Option Nat
  | none => some t.length
  | some _ => n
theorem SO.next {t : List Int} {l : LKV} {n : Option Nat} (z : SO t l n) (c : Cal) : SO t (nxL t l c) (nxN t n c) := by
  cases c with
  | none => exact ⟨z.nd, z.lt, .inr rfl⟩
  | some q =>
    refine ⟨lputs_nd z.nd _ _, fun r hr => ?_, z.n⟩
    have nd2 := lputs_nd z.nd q.1 (pcL t q)
    have e := (lk_mem nd2).mp hr
    rw [lk_puts] at e
    split at e
    · rename_i c
      have := pcL_at e
      rwa [show q.1 + (r.1 - q.1) = r.1 by omega] at this
    · exact z.lk e
end Y

namespace Y
open PySem PySem.Spec PyProof.Rows L2

theorem make_lane {ad : Ad} {h : EH} {P : EK} {env : En} (q : ∀ d h', Keep no1 h h' → h.length < d → LaneAt ad h' h.length d [] none → P (.ref h.length) h') : lMake ad.a_Lane (sp_Lane___init__ ad) lNil env h P := by
  simp only [lMake, lNil]
  refine ⟨_, rfl, new_at, fun d h' k ld z => ⟨rfl, q d h' ?_ (by simp at ld; omega) z⟩⟩
  have ka : Keep no1 h (h ++ [.slo ad.a_Lane []]) := Keep.app _
  refine ⟨Nat.le_trans ka.1 k.1, fun r o ho _ => k.2 r o (ka.at ho) ?_⟩
  have := lt_of_at ho
  unfold is1
  omega
theorem BagAt.keepS {h h' : EH} {b : Nat} {s : Nat → Prop} (B : BagAt h b) (k : Keep s h h') (n : ∀ r, r ≤ b → ¬ s r) : BagAt h' b := by
  obtain ⟨c, x, y, z, ns, e1, e2, l, r⟩ := B
  exact ⟨c, x, y, z, ns, k.2 _ _ e1 (n _ (Nat.le_refl _)), k.2 _ _ e2 (n _ (Nat.le_of_lt l)), l, r⟩
theorem LaneAt.keepS {ad : Ad} {h h' : EH} {p d : Nat} {l : LKV} {n : Option Nat} {s : Nat → Prop} (z : LaneAt ad h p d l n) (k : Keep s h h') (a : ¬ s p) (b : ¬ s d) : LaneAt ad h' p d l n := ⟨k.2 _ _ z.o a, k.2 _ _ z.d b⟩
theorem SO.empty (t : List Int) : SO t [] none := ⟨List.nodup_nil, (fun q hq => by cases hq), .inl rfl⟩
def CovC (t : List Int) (cs : List Cal) (l : LKV) : Prop := ∀ q, some q ∈ cs → ∀ j, q.1 ≤ j → j < q.1 + q.2 → j < t.length → j ∈ lkeys l
theorem CovC.next {t : List Int} {cs : List Cal} {l : LKV} {i : Nat} {c : Cal} (z : CovC t (cs.take i) l) (hi : cs[i]? = some c) : CovC t (cs.take (i + 1)) (nxL t l c) := by
  have e : cs.take (i + 1) = cs.take i ++ [c] := by
    obtain ⟨h, e⟩ := List.getElem?_eq_some_iff.mp hi
    rw [List.take_succ_eq_append_getElem h, e]
  rw [e]
  intro q hq j h1 h2 h3
  have grow : j ∈ lkeys l → j ∈ lkeys (nxL t l c) := fun hj => by
    cases c with
    | none => exact hj
    | some r =>
      rw [← lk_isSome] at hj ⊢
      show (lk (lputs l r.1 (pcL t r)) j).isSome = true
      rw [lk_puts]
      split
      · rename_i c
        rw [List.getElem?_eq_getElem (by omega)]; rfl
      · exact hj
  rcases List.mem_append.mp hq with hq | hq
  · exact grow (z q hq j h1 h2 h3)
  · have hc := List.mem_singleton.mp hq
    subst hc
    rw [← lk_isSome]
    show (lk (lputs l q.1 (pcL t q)) j).isSome = true
    have := pcL_len t q
    rw [lk_puts, if_pos (by omega), List.getElem?_eq_getElem (by omega)]; rfl
theorem two_ds {h : EH} {r : Nat} {a b : Bool} (e : h[r]? = some (.lst [.bl a, .bl b])) : DSX h 200 (.ref r) (.list [.bool a, .bool b]) :=
  ((DS.lst (n := 0) e (DSs.cons (DS.bl (k := 0)) (DSs.cons (DS.bl (k := 0)) (DSs.nil (k := 0))))).more (by omega)).x (by omega)
end Y

namespace Y
open PySem PySem.Spec PyProof.Rows L2

theorem lnE_not {n : Option Nat} {h : EH} {P : EV → EH → Prop} (p : P (.bl n.isSome) h) : isN true (lnE n) .non h P := by
  cases n <;> exact p
end Y

namespace Y
open PySem PySem.Spec PyProof.Rows L2

structure RowOk (t : List Int) (l : LKV) (n : Option Nat) : Prop where
  T : t.length = 24 ∧ ∀ x ∈ t, 0 ≤ x ∧ x ≤ 1000000000
  nd : (lkeys l).Nodup
  lt : ∀ q ∈ l, t[q.1]? = some q.2
  ky : ∀ q ∈ l, q.1 < 21
  n : ∀ m, n = some m → m < 24 ∧ ∀ q ∈ l, q.1 < m
theorem RowOk.len {t : List Int} {l : LKV} {n : Option Nat} (z : RowOk t l n) : l.length ≤ 21 := by
  have := sub_len (a := lkeys l) (b := List.range 21) z.nd fun x hx => by
    obtain ⟨q, hq, rfl⟩ := List.mem_map.mp hx
    exact List.mem_range.mpr (z.ky q hq)
  simpa using this
theorem RowOk.ok {t : List Int} {l : LKV} {n : Option Nat} (z : RowOk t l n) : LOk l n := by
  have := z.len
  refine ⟨z.nd, fun q hq => ?_, by omega, fun m hm => ⟨by have := (z.n m hm).1; omega, (z.n m hm).2⟩⟩
  have h1 := z.ky q hq
  have h2 := z.T.2 q.2 (List.mem_of_getElem? (z.lt q hq))
  omega
theorem RowOk.lk {t : List Int} {l : LKV} {n : Option Nat} (z : RowOk t l n) {i : Nat} {x : Int} (e : lk l i = some x) : t[i]? = some x := z.lt (i, x) ((lk_mem z.nd).mpr e)
theorem RowOk.top {t : List Int} {l : LKV} {n : Option Nat} (z : RowOk t l n) : ltop l ≤ 21 := ltop_le.mpr z.ky
theorem RowOk.put {t : List Int} {l : LKV} {n : Option Nat} (z : RowOk t l n) {p c : Nat} (h1 : p + c ≤ 21) (h2 : ∀ m, n = some m → p + (pcL t (p, c)).length ≤ m ∨ pcL t (p, c) = []) : RowOk t (lputs l p (pcL t (p, c))) n := by
  have nd2 := lputs_nd z.nd p (pcL t (p, c))
  have pl := pcL_len t (p, c)
  have cases' : ∀ q ∈ lputs l p (pcL t (p, c)), (p ≤ q.1 ∧ q.1 < p + (pcL t (p, c)).length ∧ t[q.1]? = some q.2) ∨ q ∈ l := fun q hq => by
    have e := (lk_mem nd2).mp hq
    rw [lk_puts] at e
    split at e
    · rename_i hc
      have := pcL_at e
      rw [show (p, c).1 + (q.1 - p) = q.1 by show p + (q.1 - p) = q.1; omega] at this
      exact .inl ⟨hc.1, hc.2, this⟩
    · exact .inr ((lk_mem z.nd).mpr e)
  refine ⟨z.T, nd2, fun q hq => ?_, fun q hq => ?_, fun m hm => ⟨(z.n m hm).1, fun q hq => ?_⟩⟩
  · rcases cases' q hq with ⟨_, _, e⟩ | e
    · exact e
    · exact z.lt q e
  · rcases cases' q hq with ⟨a, b, e⟩ | e
    · simp only at pl; omega
    · exact z.ky q e
  · rcases cases' q hq with ⟨a, b, e⟩ | e
    · rcases h2 m hm with h | h
      · omega
      · rw [h] at b; simp at b; omega
    · exact (z.n m hm).2 q e
theorem RowOk.close {t : List Int} {l : LKV} {n : Option Nat} (z : RowOk t l n) {m : Nat} (h1 : m < 24) (h2 : ltop l ≤ m) : RowOk t l (some m) := ⟨z.T, z.nd, z.lt, z.ky, fun k hk => by cases hk; exact ⟨h1, ltop_le.mp h2⟩⟩
structure RowAt (ad : Ad) (h : EH) (r p d k : Nat) (t : List Int) (l : LKV) (n : Option Nat) : Prop where
  r : h[r]? = some (.lst [.ref p, tx t, .ref k, lnE n])
  z : LaneAt ad h p d l n
  k : h[k]? = some (.dic (lnKV l))
theorem RowAt.keepS {ad : Ad} {h h' : EH} {r p d k : Nat} {t : List Int} {l : LKV} {n : Option Nat} {s : Nat → Prop} (z : RowAt ad h r p d k t l n) (kp : Keep s h h') (a : ¬ s r) (b : ¬ s p) (c : ¬ s d) (e : ¬ s k) : RowAt ad h' r p d k t l n := ⟨kp.2 _ _ z.r a, z.z.keepS kp b c, kp.2 _ _ z.k e⟩
theorem RowAt.keep {ad : Ad} {h h' : EH} {r p d k : Nat} {t : List Int} {l : LKV} {n : Option Nat} (z : RowAt ad h r p d k t l n) (kp : Keep no1 h h') : RowAt ad h' r p d k t l n := ⟨kp.at z.r, z.z.keep kp, kp.at z.k⟩
def is5 (a b c d e : Nat) : Nat → Prop := fun r => r = a ∨ r = b ∨ r = c ∨ r = d ∨ r = e
theorem row_bind {h : EH} {r a b c d : Nat} {v w x y : EV} {env : En} {P : En → Prop} (e : h[r]? = some (.lst [v, w, x, y])) (q : P ((((env.set a (some v)).set b (some w)).set c (some x)).set d (some y))) : lBind h (.tp [.nm a, .nm b, .nm c, .nm d]) (.ref r) env P := by
  simp only [lBind, Pat.bind, Pat.binds, e]
  exact q
end Y

namespace Y
open PySem PySem.Spec PyProof.Rows L2

theorem eqO_lane {ad : Ad} {h : EH} {p d p2 d2 : Nat} {l l2 : LKV} {n n2 : Option Nat} {fb : LO} {P : EK} (z : LaneAt ad h p d l n) (z2 : LaneAt ad h p2 d2 l2 n2) (q : P (.bl (lEq l l2 && decide (n = n2))) h) : eqO ad.a_Lane [ad.a_Lane] (sp_Lane___eq__ ad) fb (.ref p) (.ref p2) h P := by
  unfold eqO
  simp only [clsE, z.o, z2.o]
  exact ⟨trivial, List.mem_singleton.mpr rfl, p, d, l, n, .ref p2, rfl, z, .inl ⟨p2, d2, l2, n2, rfl, z2, q⟩⟩
end Y

namespace Y
open PySem PySem.Spec PyProof.Rows L2

end Y

namespace Y
open PySem PySem.Spec PyProof.Rows L2

inductive Due where
  | ret | contra (k : Nat) | beyond (k : Nat) | already (k : Nat) | short (k : Nat)
def sRet : List Nat := [114, 101, 116, 117, 114, 110, 101, 100]
def sCon : List Nat := [67, 111, 110, 116, 114, 97, 100, 105, 99, 116, 105, 111, 110]
def sBey : List Nat := [66, 101, 121, 111, 110, 100, 69, 110, 100]
def sAlr : List Nat := [65, 108, 114, 101, 97, 100, 121, 69, 110, 100, 101, 100]
def sSho : List Nat := [69, 110, 100, 115, 83, 104, 111, 114, 116]
def Due.e : Due → EV
  | .ret => .tup [.str sRet, .non]
  | .contra k => .tup [.str sCon, .int k]
  | .beyond k => .tup [.str sBey, .int k]
  | .already k => .tup [.str sAlr, .int k]
  | .short k => .tup [.str sSho, .int k]
def Due.D : Due → PyData
  | .ret => .tuple [.str (S sRet), .none]
  | .contra k => .tuple [.str (S sCon), .int k]
  | .beyond k => .tuple [.str (S sBey), .int k]
  | .already k => .tuple [.str (S sAlr), .int k]
  | .short k => .tuple [.str (S sSho), .int k]
def Due.sm : Due → Prop
  | .ret => True
  | .contra k => k < 10000
  | .beyond k => k < 10000
  | .already k => k < 10000
  | .short k => k < 10000
def Due.isRet : Due → Bool
  | .ret => true
  | _ => false
theorem str_ds {h : EH} {n k : Nat} {s : List Nat} {v : EV} {d : PyData} (hs : ∀ c ∈ s, c < 16 ^ 8) (hv : DS h n k v d) : DS h (n + 1) (s.length + 1 + (k + 1 + 0)) (.tup [.str s, v]) (.tuple [.str (S s), d]) :=
  DS.tup (DSs.cons (DS.str hs (Nat.le_refl _)) (DSs.cons hv DSs.nil))
theorem Due.ds {h : EH} {n : Nat} {u : Due} (s : u.sm) : DS h (n + 1) 100 u.e u.D := by
  cases u with
  | ret => exact (str_ds (s := sRet) (by decide) (DS.non (k := 0))).more (by decide)
  | contra k => exact (str_ds (s := sCon) (by decide) (DS.int (k := 41) (by unfold Due.sm at s; omega) (Nat.le_refl _))).more (by decide)
  | beyond k => exact (str_ds (s := sBey) (by decide) (DS.int (k := 41) (by unfold Due.sm at s; omega) (Nat.le_refl _))).more (by decide)
  | already k => exact (str_ds (s := sAlr) (by decide) (DS.int (k := 41) (by unfold Due.sm at s; omega) (Nat.le_refl _))).more (by decide)
  | short k => exact (str_ds (s := sSho) (by decide) (DS.int (k := 41) (by unfold Due.sm at s; omega) (Nat.le_refl _))).more (by decide)
def pieceDue (l : LKV) (n : Option Nat) (p : Nat) (xs : List Int) : Due := match fw l p xs with
  | some k => .contra k
  | none => if isLate n p xs = true then .beyond (max p (n.getD 0)) else .ret
def shortDue (l : LKV) (m : Nat) : Due := match ((lkeys l).filter fun j => decide (m ≤ j)).min? with
  | some k => .short k
  | none => .ret
def lenDue (l : LKV) (n : Option Nat) (m : Nat) : Due := match n with
  | some k => if k = m then shortDue l m else .already k
  | none => shortDue l m
theorem shortDue_some {l : LKV} {m k : Nat} (h : k ∈ lkeys l) (h1 : m ≤ k) (h2 : ∀ j ∈ lkeys l, m ≤ j → k ≤ j) : shortDue l m = .short k := by
  have : ((lkeys l).filter fun j => decide (m ≤ j)).min? = some k := by
    rw [List.min?_eq_some_iff]
    refine ⟨List.mem_filter.mpr ⟨h, by simpa using h1⟩, fun j hj => ?_⟩
    have := List.mem_filter.mp hj
    exact h2 j this.1 (by simpa using this.2)
  unfold shortDue
  rw [this]
theorem shortDue_none {l : LKV} {m : Nat} (h : ∀ q ∈ l, q.1 < m) : shortDue l m = .ret := by
  have : ((lkeys l).filter fun j => decide (m ≤ j)) = [] := by
    rw [List.filter_eq_nil_iff]
    intro j hj
    obtain ⟨q, hq, rfl⟩ := List.mem_map.mp hj
    have := h q hq
    simp; omega
  unfold shortDue
  rw [this]; rfl
def sp__law_received (ad : Ad) : LSp := fun evs h Q => ∃ p d place l n xs, evs = [.ref p, .int (place : Nat), tx xs] ∧ LaneAt ad h p d l n ∧ place < 1000000 ∧ l.length ≤ 1000000 ∧ xs.length ≤ 1000000 ∧
  (pieceDue l n place xs = .ret → ∀ h', Keep (is1 d) h h' → LaneAt ad h' p d (lputs l place xs) n → Q (Due.ret.e) h') ∧ (pieceDue l n place xs ≠ .ret → ∀ h', Keep no1 h h' → Q (pieceDue l n place xs).e h')
def sp__law_closed (ad : Ad) : LSp := fun evs h Q => ∃ p d m l n, evs = [.ref p, .int (m : Nat)] ∧ LaneAt ad h p d l n ∧ l.length ≤ 1000000 ∧
  (lenDue l n m = .ret → ∀ h', Keep (is1 p) h h' → LaneAt ad h' p d l (some m) → Q (Due.ret.e) h') ∧ (lenDue l n m ≠ .ret → ∀ h', Keep no1 h h' → Q (lenDue l n m).e h')
def sp__law_piece_due (ad : Ad) : LSp := fun evs h Q => ∃ k place l n xs, evs = [.ref k, lnE n, .int (place : Nat), tx xs] ∧ h[k]? = some (.dic (lnKV l)) ∧ xs.length ≤ 1000 ∧ ∀ h', Keep no1 h h' → Q (pieceDue l n place xs).e h'
def sp__law_length_due (ad : Ad) : LSp := fun evs h Q => ∃ k m l n, evs = [.ref k, lnE n, .int (m : Nat)] ∧ h[k]? = some (.dic (lnKV l)) ∧ (lkeys l).Nodup ∧ l.length < 64 ∧ ∀ h', Keep no1 h h' → Q (lenDue l n m).e h'
abbrev N__law_received : List Str := ["_law_lane", "_law_place", "_law_piece_here", "_law_told", "e"]
def t__law_received (ad : Ad) : LS :=
    lSeq (lTry (fun W =>
      lSet (lMetX (List.lookup · [(ad.a_Lane, (sp_Lane_receive__X ad))]) W (lVar 0) (lCons (lVar 1) (lCons (lVar 2) (lNil)))) 3) [(ad.a_Contradiction, "place", .tup [67, 111, 110, 116, 114, 97, 100, 105, 99, 116, 105, 111, 110], 4), (ad.a_BeyondEnd, "place", .tup [66, 101, 121, 111, 110, 100, 69, 110, 100], 4)]) <|
    lRet (lTup (lCons (lC (.str [114, 101, 116, 117, 114, 110, 101, 100])) (lCons (lVar 3) (lNil))))
abbrev N__law_closed : List Str := ["_law_lane", "_law_length", "_law_told", "e"]
def t__law_closed (ad : Ad) : LS :=
    lSeq (lTry (fun W =>
      lSet (lMetX (List.lookup · [(ad.a_Lane, (sp_Lane_close__X ad))]) W (lVar 0) (lCons (lVar 1) (lNil))) 2) [(ad.a_AlreadyEnded, "length", .tup [65, 108, 114, 101, 97, 100, 121, 69, 110, 100, 101, 100], 3), (ad.a_EndsShort, "place", .tup [69, 110, 100, 115, 83, 104, 111, 114, 116], 3)]) <|
    lRet (lTup (lCons (lC (.str [114, 101, 116, 117, 114, 110, 101, 100])) (lCons (lVar 2) (lNil))))
abbrev N__law_piece_due : List Str := ["_law_known", "_law_length", "_law_place", "_law_piece_here", "_law_spots", "_law_wrong", "_law_late", "_law_at", "_law_spot"]
def t__law_piece_due (ad : Ad) : LS :=
    lSeq (lSet (lLc (lRng1 (lCons (lCB lenE (lCons (lVar 3) (lNil))) (lNil))) (.nm 7) (lYes) (lOp addE (lVar 2) (lVar 7)) [7]) 4) <|
    lSeq (lSet (lLc (lIt (lVar 4)) (.nm 8) (lAnd (lB (lOp (inA false) (lVar 8) (lVar 0))) (lB (lOp (eqE true) (lOp ixA (lVar 0) (lVar 8)) (lOp ixA (lVar 3) (lOp subE (lVar 8) (lVar 2)))))) (lVar 8) [8]) 5) <|
    lSeq (lSet (lLc (lIt (lVar 4)) (.nm 8) (lAnd (lB (lOp (isN true) (lVar 1) (lC .non))) (lB (lOp geE (lVar 8) (lVar 1)))) (lVar 8) [8]) 6) <|
    lSeq (lIfS (lB (lOp (eqE true) (lVar 5) (lLst (lNil))))
      (lRet (lTup (lCons (lC (.str [67, 111, 110, 116, 114, 97, 100, 105, 99, 116, 105, 111, 110])) (lCons (lOp ixA (lVar 5) (lC (.int 0))) (lNil)))))
      (lNext)) <|
    lRet (lIf (lB (lOp (eqE true) (lVar 6) (lLst (lNil)))) (lTup (lCons (lC (.str [66, 101, 121, 111, 110, 100, 69, 110, 100])) (lCons (lOp ixA (lVar 6) (lC (.int 0))) (lNil)))) (lTup (lCons (lC (.str [114, 101, 116, 117, 114, 110, 101, 100])) (lCons (lC .non) (lNil)))))
abbrev N__law_length_due : List Str := ["_law_known", "_law_length", "_law_end", "_law_late", "_law_place"]
def t__law_length_due (ad : Ad) : LS :=
    lSeq (lIfS (lAnd (lB (lOp (isN true) (lVar 1) (lC .non))) (lB (lOp (eqE true) (lVar 1) (lVar 2))))
      (lRet (lTup (lCons (lC (.str [65, 108, 114, 101, 97, 100, 121, 69, 110, 100, 101, 100])) (lCons (lVar 1) (lNil)))))
      (lNext)) <|
    lSeq (lSet (lLc (lIt (lCB sortE (lCons (lVar 0) (lNil)))) (.nm 4) (lB (lOp geE (lVar 4) (lVar 2))) (lVar 4) [4]) 3) <|
    lRet (lIf (lB (lOp (eqE true) (lVar 3) (lLst (lNil)))) (lTup (lCons (lC (.str [69, 110, 100, 115, 83, 104, 111, 114, 116])) (lCons (lOp ixA (lVar 3) (lC (.int 0))) (lNil)))) (lTup (lCons (lC (.str [114, 101, 116, 117, 114, 110, 101, 100])) (lCons (lC .non) (lNil)))))
theorem len__law_received (ad : Ad) (evs : List EV) (h : EH) (Q : EK) (q : sp__law_received ad evs h Q) : evs.length = ["_law_lane", "_law_place", "_law_piece_here"].length := by
  obtain ⟨_, _, _, _, _, _, rfl, _⟩ := q; rfl
theorem len__law_closed (ad : Ad) (evs : List EV) (h : EH) (Q : EK) (q : sp__law_closed ad evs h Q) : evs.length = ["_law_lane", "_law_length"].length := by
  obtain ⟨_, _, _, _, _, rfl, _⟩ := q; rfl
theorem len__law_piece_due (ad : Ad) (evs : List EV) (h : EH) (Q : EK) (q : sp__law_piece_due ad evs h Q) : evs.length = ["_law_known", "_law_length", "_law_place", "_law_piece_here"].length := by
  obtain ⟨_, _, _, _, _, rfl, _⟩ := q; rfl
theorem len__law_length_due (ad : Ad) (evs : List EV) (h : EH) (Q : EK) (q : sp__law_length_due ad evs h Q) : evs.length = ["_law_known", "_law_length", "_law_end"].length := by
  obtain ⟨_, _, _, _, rfl, _⟩ := q; rfl
theorem met_laneX {ad : Ad} {h h2 : EH} {p d : Nat} {l : LKV} {n : Option Nat} {sp : LSpX} {W : EW} {env : En} {P : EK} {t : LA} {vs : List EV} (z : LaneAt ad h p d l n) (ht : ∀ P : List EV → EH → Prop, P vs h2 → t env h P) (q : sp (.ref p :: vs) h2 P fun C fs h3 => W C fs env h3) : metKX (List.lookup · [(ad.a_Lane, sp)]) W t env P (.ref p) h := by
  simp only [metKX, z.o, List.lookup_cons, beq_self_eq_true]
  exact ht _ q
theorem pure__law_received (ad : Ad) (evs : List EV) (h : EH) (Q : EK) (q : sp__law_received ad evs h Q) : t__law_received ad (endsOf Q) (startE N__law_received evs) h := by
  obtain ⟨p, d, place, l, n, xs, rfl, z, hp, hl, hx, q, qx⟩ := q
  show t__law_received ad (endsOf Q) [some (.ref p), some (.int place), some (tx xs), none, none] h
  unfold t__law_received
  rw [lSeq, lTry]
  intro mk hmk
  have k0 : Keep no1 h (h ++ [mk]) := Keep.app _
  have em : (h ++ [mk])[h.length]? = some mk := new_at
  have hd := (lane_lt z).2
  have z := z.keep k0
  generalize h ++ [mk] = h0 at *
  simp only [lSet, lMetX, lVar, List.getElem?_cons_zero, List.getElem?_cons_succ]
  refine met_laneX (vs := [.int place, tx xs]) z (fun P p => by simp only [lCons, lVar, lNil, List.getElem?_cons_zero, List.getElem?_cons_succ]; exact p) ?_
  unfold pieceDue at q qx
  refine ⟨p, d, place, l, n, xs, rfl, z, hp, hl, hx, fun hf hL h' k z' => ?_, fun j hf h' k => ?_, fun hf hL m hm h' k => ?_⟩
  · rw [hf, hL] at q
    simp only [lSeq, lSet, lRet, lRetN, lDrop, lIfS, lOp, lVar, lC, lB, lT, lAnd, lOr, lNot, lIf, lAndV, lOrV, lNotV, lNil, lCons, lTup, lLst, lCB, lBM, lSl, lPart, lNext, lFor, lIt, lRng1, lRng2, lAsg, lPar, lSetI, lSetA, lAugS, lLc, lZip, lNeg, lCall, lChain, List.getElem?_cons_zero, List.getElem?_cons_succ, List.set_cons_zero, List.set_cons_succ, truE, wipeE, intP, intE]
    exact ⟨by simp [sizeL], q rfl h' (k0.all.trans k) z'⟩
  · rw [hf] at qx
    exact ⟨k.at em, .inl ⟨rfl, _, rfl, qx (fun z => nomatch z) _ (k0.trans k)⟩⟩
  · rw [hf, hL, hm] at qx
    exact ⟨k.at em, .inr (.inl ⟨rfl, _, rfl, qx (fun z => nomatch z) _ (k0.trans k)⟩)⟩
theorem pure__law_closed (ad : Ad) (evs : List EV) (h : EH) (Q : EK) (q : sp__law_closed ad evs h Q) : t__law_closed ad (endsOf Q) (startE N__law_closed evs) h := by
  obtain ⟨p, d, m, l, n, rfl, z, hl, q, qx⟩ := q
  show t__law_closed ad (endsOf Q) [some (.ref p), some (.int m), none, none] h
  unfold t__law_closed
  rw [lSeq, lTry]
  intro mk hmk
  have k0 : Keep no1 h (h ++ [mk]) := Keep.app _
  have em : (h ++ [mk])[h.length]? = some mk := new_at
  have hd := (lane_lt z).1
  have z := z.keep k0
  generalize h ++ [mk] = h0 at *
  simp only [lSet, lMetX, lVar, List.getElem?_cons_zero, List.getElem?_cons_succ]
  refine met_laneX (vs := [.int m]) z (fun P p => by simp only [lCons, lVar, lNil, List.getElem?_cons_zero, List.getElem?_cons_succ]; exact p) ?_
  refine ⟨p, d, m, l, n, rfl, z, hl, fun hn hk h' k z' => ?_, fun j hn hne h' k => ?_, fun hn j hj hm hmin h' k => ?_⟩
  · have e : lenDue l n m = Due.ret := by
      unfold lenDue
      cases n with
      | none => exact shortDue_none hk
      | some j => simp only; rw [if_pos (hn j rfl)]; exact shortDue_none hk
    simp only [lSeq, lSet, lRet, lRetN, lDrop, lIfS, lOp, lVar, lC, lB, lT, lAnd, lOr, lNot, lIf, lAndV, lOrV, lNotV, lNil, lCons, lTup, lLst, lCB, lBM, lSl, lPart, lNext, lFor, lIt, lRng1, lRng2, lAsg, lPar, lSetI, lSetA, lAugS, lLc, lZip, lNeg, lCall, lChain, List.getElem?_cons_zero, List.getElem?_cons_succ, List.set_cons_zero, List.set_cons_succ, truE, wipeE, intP, intE]
    exact ⟨by simp [sizeL], q e h' (k0.all.trans k) z'⟩
  · subst hn
    have e : lenDue l (some j) m = .already j := by unfold lenDue; simp only; rw [if_neg hne]
    rw [e] at qx
    exact ⟨k.at em, .inl ⟨rfl, _, rfl, qx (fun z => nomatch z) _ (k0.trans k)⟩⟩
  · have e : lenDue l n m = Due.short j := by
      unfold lenDue
      cases n with
      | none => exact shortDue_some hj hm hmin
      | some i => simp only; rw [if_pos (hn i rfl)]; exact shortDue_some hj hm hmin
    rw [e] at qx
    exact ⟨k.at em, .inr (.inl ⟨rfl, _, rfl, qx (fun z => nomatch z) _ (k0.trans k)⟩)⟩
def wrB (l : LKV) (p : Nat) (xs : List Int) (s : Nat) : Bool := (lk l s).isSome && !decide ((lk l s).getD 0 = xs.getD (s - p) 0)
def ltB (n : Option Nat) (s : Nat) : Bool := match n with
  | some m => decide (m ≤ s)
  | none => false
theorem wrB_none {l : LKV} {p s : Nat} {xs : List Int} (h : lk l s = none) : wrB l p xs s = false := by unfold wrB; simp [h]
theorem wrB_some {l : LKV} {p s : Nat} {xs : List Int} {y : Int} (h : lk l s = some y) : wrB l p xs s = !decide (y = xs.getD (s - p) 0) := by unfold wrB; simp [h]
def spots (p : Nat) (xs : List Int) : List Nat := List.range' p xs.length
theorem fw_head (l : LKV) (p : Nat) (xs : List Int) : ((spots p xs).filter (wrB l p xs)).head? = fw l p xs := by
  have key : ∀ (ys : List Int) (k : Nat), xs.drop k = ys → ((List.range' (p + k) ys.length).filter (wrB l p xs)).head? = fw l (p + k) ys := by
    intro ys
    induction ys with
    | nil => intro k _; rfl
    | cons y ys ih =>
      intro k e
      have h1 : xs[k]? = some y := by rw [← List.head?_drop, e]; rfl
      have h2 : xs.drop (k + 1) = ys := by rw [← List.tail_drop, e]; rfl
      rw [List.length_cons, List.range'_succ, List.filter_cons, fw]
      have e3 : xs.getD (p + k - p) 0 = y := by rw [Nat.add_sub_cancel_left, List.getD_eq_getElem?_getD, h1]; rfl
      have i2 := ih (k + 1) h2
      rw [← Nat.add_assoc] at i2
      cases hk : lk l (p + k) with
      | none =>
        rw [wrB_none hk]
        simp only [Bool.false_eq_true, if_false, Option.getD_none, if_true]
        exact i2
      | some x =>
        rw [wrB_some hk, e3]
        simp only [Option.getD_some]
        by_cases c : x = y
        · simp only [c, decide_true, Bool.not_true, Bool.false_eq_true, if_false, if_true]
          exact i2
        · simp only [c, decide_false, Bool.not_false, if_true, if_false, List.head?_cons]
  have := key xs 0 rfl
  simpa [spots] using this
theorem late_head (n : Option Nat) (p : Nat) (xs : List Int) : ((spots p xs).filter (ltB n)).head? = if isLate n p xs = true then some (max p (n.getD 0)) else none := by
  cases n with
  | none =>
    have : (spots p xs).filter (ltB none) = [] := by rw [List.filter_eq_nil_iff]; intro a _; simp [ltB]
    simp only [isLate, Bool.false_eq_true, if_false, this, List.head?_nil]
  | some m =>
    simp only [isLate, Option.getD_some]
    unfold spots
    show ((List.range' p xs.length).filter fun s => decide (m ≤ s)).head? = _
    have key : ∀ (len p : Nat), ((List.range' p len).filter fun s => decide (m ≤ s)).head? = if 0 < len ∧ m < p + len then some (max p m) else none := by
      intro len
      induction len with
      | zero => intro p; simp
      | succ len ih =>
        intro p
        rw [List.range'_succ, List.filter_cons]
        by_cases c : m ≤ p
        · rw [if_pos (by simpa using c), if_pos (by omega), List.head?_cons, Nat.max_eq_left c]
        · rw [if_neg (by simpa using c), ih]
          by_cases c2 : 0 < len ∧ m < p + 1 + len
          · rw [if_pos c2, if_pos (by omega)]
            congr 1; omega
          · rw [if_neg c2, if_neg (by omega)]
    rw [key]
    cases xs with
    | nil => simp
    | cons x xs =>
      simp
theorem pure__law_length_due (ad : Ad) (evs : List EV) (h : EH) (Q : EK) (q : sp__law_length_due ad evs h Q) : t__law_length_due ad (endsOf Q) (startE N__law_length_due evs) h := by
  obtain ⟨k, m, l, n, rfl, e, nd, sz, q⟩ := q
  show t__law_length_due ad (endsOf Q) [some (.ref k), some (lnE n), some (.int m), none, none] h
  unfold t__law_length_due
  rw [lSeq, lIfS]
  have go : lenDue l n m = shortDue l m → (lSeq (lSet (lLc (lIt (lCB sortE (lCons (lVar 0) (lNil)))) (.nm 4) (lB (lOp geE (lVar 4) (lVar 2))) (lVar 4) [4]) 3) <|
    lRet (lIf (lB (lOp (eqE true) (lVar 3) (lLst (lNil)))) (lTup (lCons (lC (.str [69, 110, 100, 115, 83, 104, 111, 114, 116])) (lCons (lOp ixA (lVar 3) (lC (.int 0))) (lNil)))) (lTup (lCons (lC (.str [114, 101, 116, 117, 114, 110, 101, 100])) (lCons (lC .non) (lNil)))))) (endsOf Q) [some (.ref k), some (lnE n), some (.int m), none, none] h := by
    intro eq
    rw [eq] at q
    rw [lSeq, lSet]
    simp only [lLc, lIt, lCB, lCons, lNil, lVar, List.getElem?_cons_zero, List.getElem?_cons_succ, sortE, e]
    refine ⟨(lkeys l).map fun (i : Nat) => (i : Int), by rw [ln_keys]; exact (List.map_map ..).symm, by simpa using sz, fun ys py sy => ?_⟩
    obtain ⟨zs, sz', rfl⟩ := srt_of nd py sy
    simp only [new_at]
    let f : EV → Option EV := fun v => match v with
      | .int i => if (m : Int) ≤ i then some (.int i) else none
      | _ => none
    refine lc_plain f _ (by rw [List.length_map, List.length_map, List.length_map, sz'.1.length_eq, sizeL]; omega) (fun acc => app_at new_at _) (fun x hx acc ky kn hy hn => bind_nm ?_) ?_
    · obtain ⟨i, hi, rfl⟩ := List.mem_map.mp hx
      simp only [lSeq, lSet, lRet, lRetN, lDrop, lIfS, lOp, lVar, lC, lB, lT, lAnd, lOr, lNot, lIf, lAndV, lOrV, lNotV, lNil, lCons, lTup, lLst, lCB, lBM, lSl, lPart, lNext, lFor, lIt, lRng1, lRng2, lAsg, lPar, lSetI, lSetA, lAugS, lLc, lZip, lNeg, lCall, lChain, List.getElem?_cons_zero, List.getElem?_cons_succ, List.set_cons_zero, List.set_cons_succ, truE, wipeE, intP, intE, wipeE, geE]
      by_cases c : (m : Int) ≤ i
      · simp only [c, decide_true, if_true]
        exact hy _ (by simp only [f, if_pos c])
      · simp only [c, decide_false, Bool.false_eq_true, if_false]
        exact hn (by simp only [f, if_neg c])
    · have ef : (((lkeys zs).map fun (i : Nat) => (i : Int)).map EV.int).filterMap f = (((lkeys zs).filter fun j => decide (m ≤ j)).map fun (i : Nat) => (i : Int)).map EV.int := by
        generalize lkeys zs = ks
        induction ks with
        | nil => rfl
        | cons i ks ih =>
          rw [List.map_cons, List.map_cons, List.filterMap_cons, List.filter_cons, ih]
          by_cases c : m ≤ i
          · have c2 : (m : Int) ≤ i := by omega
            simp [f, c, c2]
          · have c2 : ¬ (m : Int) ≤ i := by omega
            simp [f, c, c2]
      rw [ef]
      have srt : ((lkeys zs).filter fun j => decide (m ≤ j)).Pairwise (· < ·) := sz'.2.sublist List.filter_sublist
      have mem : ∀ j, j ∈ ((lkeys zs).filter fun j => decide (m ≤ j)) ↔ j ∈ lkeys l ∧ m ≤ j := fun j => by
        rw [List.mem_filter, (sz'.1.map (·.1)).mem_iff]; simp
      generalize (lkeys zs).filter (fun j => decide (m ≤ j)) = g at srt mem
      simp only [lSeq, lSet, lRet, lRetN, lDrop, lIfS, lOp, lVar, lC, lB, lT, lAnd, lOr, lNot, lIf, lAndV, lOrV, lNotV, lNil, lCons, lTup, lLst, lCB, lBM, lSl, lPart, lNext, lFor, lIt, lRng1, lRng2, lAsg, lPar, lSetI, lSetA, lAugS, lLc, lZip, lNeg, lCall, lChain, List.getElem?_cons_zero, List.getElem?_cons_succ, List.set_cons_zero, List.set_cons_succ, truE, wipeE, intP, intE, List.length_nil]
      refine ⟨by rw [sizeL]; decide, ?_⟩
      refine ⟨.list ((g.map fun (i : Nat) => (i : Int)).map PyData.int), .list [], .lst (app_at new_at _) (Dats_ints _), .lst new_at .nil, ?_⟩
      cases g with
      | nil =>
        simp only [List.map_nil, PyData.eqv, PyData.eqvAll, Bool.xor_true, Bool.not_true, Bool.false_eq_true, if_false]
        rw [shortDue_none fun x hx => by
          rcases Nat.lt_or_ge x.1 m with c | c
          · exact c
          · have := (mem x.1).mpr ⟨List.mem_map.mpr ⟨x, hx, rfl⟩, c⟩
            cases this] at q
        exact ⟨by simp [sizeL], q _ ((Keep.app _).trans ((Keep.app _).trans (Keep.app _)))⟩
      | cons a g =>
        simp only [List.map_cons, PyData.eqv, PyData.eqvAll, Bool.xor_false, if_true]
        refine ia_l (app_at new_at _) at0 ⟨by simp [sizeL], ?_⟩
        have ha := (mem a).mp List.mem_cons_self
        rw [shortDue_some ha.1 ha.2 fun j hj hm => by
          have := (mem j).mpr ⟨hj, hm⟩
          rcases List.mem_cons.mp this with rfl | z
          · exact Nat.le_refl _
          · exact Nat.le_of_lt ((List.pairwise_cons.mp srt).1 j z)] at q
        exact q _ ((Keep.app _).trans ((Keep.app _).trans (Keep.app _)))
  simp only [lAnd, lB, lOp, lVar, lC, List.getElem?_cons_zero, List.getElem?_cons_succ]
  refine lnE_not ?_
  cases n with
  | none =>
    simp only [Option.isSome_none, Bool.false_eq_true, if_false, lNext]
    exact go rfl
  | some j =>
    simp only [Option.isSome_some, if_true, lnE, eqE]
    by_cases c : j = m
    · have c2 : (j : Int) = m := by omega
      simp only [c2, decide_true, Bool.xor_true, Bool.not_true, Bool.false_eq_true, if_false, lNext]
      have := go (by unfold lenDue; simp only; rw [if_pos c])
      rw [show lnE (some j) = .int m by rw [lnE, c2]] at this
      exact this
    · have c2 : ¬ (j : Int) = m := by omega
      simp only [c2, decide_false, Bool.xor_false, if_true]
      unfold lenDue at q
      simp only [if_neg c] at q
      simp only [lSeq, lSet, lRet, lRetN, lDrop, lIfS, lOp, lVar, lC, lB, lT, lAnd, lOr, lNot, lIf, lAndV, lOrV, lNotV, lNil, lCons, lTup, lLst, lCB, lBM, lSl, lPart, lNext, lFor, lIt, lRng1, lRng2, lAsg, lPar, lSetI, lSetA, lAugS, lLc, lZip, lNeg, lCall, lChain, List.getElem?_cons_zero, List.getElem?_cons_succ, List.set_cons_zero, List.set_cons_succ, truE, wipeE, intP, intE]
      exact ⟨by simp [sizeL], q _ .refl⟩
theorem pure__law_piece_due (ad : Ad) (evs : List EV) (h : EH) (Q : EK) (q : sp__law_piece_due ad evs h Q) : t__law_piece_due ad (endsOf Q) (startE N__law_piece_due evs) h := by
  obtain ⟨k, p, l, n, xs, rfl, e, hx, q⟩ := q
  show t__law_piece_due ad (endsOf Q) [some (.ref k), some (lnE n), some (.int p), some (tx xs), none, none, none, none, none] h
  unfold t__law_piece_due
  rw [lSeq, lSet]
  simp only [lLc, lRng1, lCB, lCons, lNil, lVar, List.getElem?_cons_zero, List.getElem?_cons_succ, lenE, List.length_map]
  refine ⟨⟨by omega, by omega⟩, ?_⟩
  rw [show ((xs.length : Int)).toNat = xs.length by omega, rangeL_nat]
  refine lc_map (fun v => match v with
    | .int i => EV.int ((p : Int) + i)
    | _ => .non) _ (by simp [sizeL]; omega) (fun _ => trivial) (fun x hx' acc ky hy => bind_nm ?_) ?_
  · obtain ⟨i, hi, rfl⟩ := List.mem_map.mp hx'
    simp only [lSeq, lSet, lRet, lRetN, lDrop, lIfS, lOp, lVar, lC, lB, lT, lAnd, lOr, lNot, lIf, lAndV, lOrV, lNotV, lNil, lCons, lTup, lLst, lCB, lBM, lSl, lPart, lNext, lFor, lIt, lRng1, lRng2, lAsg, lPar, lSetI, lSetA, lAugS, lLc, lZip, lNeg, lCall, lChain, List.getElem?_cons_zero, List.getElem?_cons_succ, List.set_cons_zero, List.set_cons_succ, truE, wipeE, intP, intE, wipeE]
    exact add_i hy
  have es : ((List.range' 0 xs.length).map fun (i : Nat) => EV.int i).map (fun v => match v with
    | .int i => EV.int ((p : Int) + i)
    | _ => .non) = (spots p xs).map fun (i : Nat) => EV.int i := by
    unfold spots
    rw [List.map_map, List.range'_eq_map_range (s := p), List.map_map, List.range'_eq_map_range (s := 0), List.map_map]
    refine List.map_congr_left fun i _ => ?_
    simp
  rw [es]
  simp only [List.set_cons_zero, List.set_cons_succ]
  have ls : (spots p xs).length = xs.length := by simp [spots]
  have mems : ∀ s ∈ spots p xs, p ≤ s ∧ s < p + xs.length := fun s hs => by
    unfold spots at hs
    rw [List.mem_range'] at hs
    obtain ⟨i, hi, rfl⟩ := hs
    omega
  have e1 : (h ++ [EO.lst ((spots p xs).map fun (i : Nat) => EV.int i)])[h.length]? = some (.lst ((spots p xs).map fun (i : Nat) => EV.int i)) := new_at
  have k1 : Keep no1 h (h ++ [EO.lst ((spots p xs).map fun (i : Nat) => EV.int i)]) := Keep.app _
  generalize h ++ [EO.lst ((spots p xs).map fun (i : Nat) => EV.int i)] = h1 at *
  -- those wrong
  rw [lSeq, lSet]
  simp only [lLc, lIt, lVar, List.getElem?_cons_zero, List.getElem?_cons_succ, e1]
  have fm : ∀ (g : Nat → Bool) (ks : List Nat), (ks.map fun (i : Nat) => EV.int i).filterMap (fun v => match v with | .int i => if g i.toNat = true then some (.int i) else none | _ => none) = (ks.filter g).map fun (i : Nat) => EV.int i := by
    intro g ks
    induction ks with
    | nil => rfl
    | cons i ks ih =>
      rw [List.map_cons, List.filterMap_cons, List.filter_cons, ih]
      cases c : g i <;> simp [c]
  refine lc_plain (fun v => match v with | .int i => if wrB l p xs i.toNat = true then some (.int i) else none | _ => none) _ (by rw [List.length_map, ls, sizeL]; omega) (fun acc => app_at e1 _) (fun x hx' acc ky kn hy hn => bind_nm ?_) ?_
  · obtain ⟨s, hs, rfl⟩ := List.mem_map.mp hx'
    have ms := mems s hs
    have es' := app_at (k1.at e) [EO.lst acc]
    simp only [lSeq, lSet, lRet, lRetN, lDrop, lIfS, lOp, lVar, lC, lB, lT, lAnd, lOr, lNot, lIf, lAndV, lOrV, lNotV, lNil, lCons, lTup, lLst, lCB, lBM, lSl, lPart, lNext, lFor, lIt, lRng1, lRng2, lAsg, lPar, lSetI, lSetA, lAugS, lLc, lZip, lNeg, lCall, lChain, List.getElem?_cons_zero, List.getElem?_cons_succ, List.set_cons_zero, List.set_cons_succ, truE, wipeE, intP, intE, wipeE, inA, es', isKey, true_and, ln_has, Bool.false_xor]
    have hy : wrB l p xs s = true → ky (.int s) (h1 ++ [EO.lst acc]) := fun c => hy _ (by simp only [Int.toNat_natCast]; exact if_pos c)
    have hn : wrB l p xs s = false → kn (h1 ++ [EO.lst acc]) := fun c => hn (by simp only [Int.toNat_natCast]; exact if_neg (by rw [c]; simp))
    cases hk : lk l s with
    | none =>
      rw [wrB_none hk] at hn
      simp only [Option.isSome_none, Bool.false_eq_true, if_false]
      exact hn rfl
    | some y =>
      rw [wrB_some hk] at hy hn
      simp only [Option.isSome_some, if_true]
      refine ia_d es' (show isKey (.int (s : Nat)) from trivial) (x := .int y) (by rw [ln_get, hk]; rfl) ?_
      rw [show ((s : Int) - p) = ((s - p : Nat) : Int) by omega]
      refine ia_t (tx_at (by omega)) ?_
      refine eq_i ?_
      by_cases c : y = xs.getD (s - p) 0
      · simp only [c, decide_true, Bool.xor_true, Bool.not_true, Bool.false_eq_true, if_false]
        exact hn (by rw [decide_eq_true c]; rfl)
      · simp only [c, decide_false, Bool.xor_false, if_true]
        exact hy (by rw [decide_eq_false c]; rfl)
  rw [fm (wrB l p xs)]
  have hw := fw_head l p xs
  generalize (spots p xs).filter (wrB l p xs) = ws at *
  simp only [List.set_cons_zero, List.set_cons_succ]
  have e2 : (h1 ++ [EO.lst (ws.map fun (i : Nat) => EV.int i)])[h1.length]? = some (.lst (ws.map fun (i : Nat) => EV.int i)) := new_at
  have k2 : Keep no1 h (h1 ++ [EO.lst (ws.map fun (i : Nat) => EV.int i)]) := k1.trans (Keep.app _)
  have e1 := app_at e1 [EO.lst (ws.map fun (i : Nat) => EV.int i)]
  generalize h1 ++ [EO.lst (ws.map fun (i : Nat) => EV.int i)] = h2 at *
  generalize h1.length = F1 at *
  -- those late
  rw [lSeq, lSet]
  simp only [lLc, lIt, lVar, List.getElem?_cons_zero, List.getElem?_cons_succ, e1]
  refine lc_plain (fun v => match v with | .int i => if ltB n i.toNat = true then some (.int i) else none | _ => none) _ (by rw [List.length_map, ls, sizeL]; omega) (fun acc => app_at e1 _) (fun x hx' acc ky kn hy hn => bind_nm ?_) ?_
  · obtain ⟨s, hs, rfl⟩ := List.mem_map.mp hx'
    simp only [lSeq, lSet, lRet, lRetN, lDrop, lIfS, lOp, lVar, lC, lB, lT, lAnd, lOr, lNot, lIf, lAndV, lOrV, lNotV, lNil, lCons, lTup, lLst, lCB, lBM, lSl, lPart, lNext, lFor, lIt, lRng1, lRng2, lAsg, lPar, lSetI, lSetA, lAugS, lLc, lZip, lNeg, lCall, lChain, List.getElem?_cons_zero, List.getElem?_cons_succ, List.set_cons_zero, List.set_cons_succ, truE, wipeE, intP, intE, wipeE]
    have hy : ltB n s = true → ky (.int s) (h2 ++ [EO.lst acc]) := fun c => hy _ (by simp only [Int.toNat_natCast]; exact if_pos c)
    have hn : ltB n s = false → kn (h2 ++ [EO.lst acc]) := fun c => hn (by simp only [Int.toNat_natCast]; exact if_neg (by rw [c]; simp))
    refine lnE_not ?_
    cases n with
    | none =>
      simp only [Option.isSome_none, Bool.false_eq_true, if_false]
      exact hn rfl
    | some m =>
      simp only [Option.isSome_some, if_true, lnE, geE, intP]
      by_cases c : m ≤ s
      · have c2 : (m : Int) ≤ s := by omega
        simp only [c2, decide_true, if_true]
        exact hy (by simp [ltB, c])
      · have c2 : ¬ (m : Int) ≤ s := by omega
        simp only [c2, decide_false, Bool.false_eq_true, if_false]
        exact hn (by simp [ltB, c])
  rw [fm (ltB n)]
  have hl := late_head n p xs
  generalize (spots p xs).filter (ltB n) = ls' at *
  simp only [List.set_cons_zero, List.set_cons_succ]
  have e3 : (h2 ++ [EO.lst (ls'.map fun (i : Nat) => EV.int i)])[h2.length]? = some (.lst (ls'.map fun (i : Nat) => EV.int i)) := new_at
  have k3 : Keep no1 h (h2 ++ [EO.lst (ls'.map fun (i : Nat) => EV.int i)]) := k2.trans (Keep.app _)
  have e2 := app_at e2 [EO.lst (ls'.map fun (i : Nat) => EV.int i)]
  generalize h2 ++ [EO.lst (ls'.map fun (i : Nat) => EV.int i)] = h3 at *
  generalize h2.length = F2 at *
  have di : ∀ g : List Nat, Dats (h3 ++ [EO.lst []]) 59 (g.map fun (i : Nat) => EV.int i) ((g.map fun (i : Nat) => (i : Int)).map PyData.int) := fun g => by
    have := Dats_ints (h := h3 ++ [EO.lst []]) (n := 59) (g.map fun (i : Nat) => (i : Int))
    rw [List.map_map] at this
    exact this
  have k4 : Keep no1 h (h3 ++ [EO.lst []]) := k3.trans (Keep.app _)
  unfold pieceDue at q
  rw [← hw] at q
  rw [lSeq, lIfS]
  simp only [lB, lOp, lVar, lLst, lNil, List.getElem?_cons_zero, List.getElem?_cons_succ, List.length_nil]
  refine ⟨by rw [sizeL]; decide, ?_⟩
  refine ⟨.list ((ws.map fun (i : Nat) => (i : Int)).map PyData.int), .list [], .lst (app_at e2 _) (di ws), .lst new_at .nil, ?_⟩
  cases ws with
  | cons w ws =>
    simp only [List.map_cons, PyData.eqv, PyData.eqvAll, Bool.xor_false, if_true, lSeq, lSet, lRet, lRetN, lDrop, lIfS, lOp, lVar, lC, lB, lT, lAnd, lOr, lNot, lIf, lAndV, lOrV, lNotV, lNil, lCons, lTup, lLst, lCB, lBM, lSl, lPart, lNext, lFor, lIt, lRng1, lRng2, lAsg, lPar, lSetI, lSetA, lAugS, lLc, lZip, lNeg, lCall, lChain, List.getElem?_cons_zero, List.getElem?_cons_succ, List.set_cons_zero, List.set_cons_succ, truE, wipeE, intP, intE]
    refine ia_l (app_at e2 _) at0 ⟨by simp [sizeL], ?_⟩
    exact q _ k4
  | nil =>
    simp only [List.map_nil, PyData.eqv, PyData.eqvAll, Bool.xor_true, Bool.not_true, Bool.false_eq_true, if_false, lNext]
    rw [lRet, lIf]
    simp only [lB, lOp, lVar, lLst, lNil, List.getElem?_cons_zero, List.getElem?_cons_succ, List.length_nil]
    refine ⟨by rw [sizeL]; decide, ?_⟩
    have di2 : Dats (h3 ++ [EO.lst []] ++ [EO.lst []]) 59 (ls'.map fun (i : Nat) => EV.int i) ((ls'.map fun (i : Nat) => (i : Int)).map PyData.int) := by
      have := Dats_ints (h := h3 ++ [EO.lst []] ++ [EO.lst []]) (n := 59) (ls'.map fun (i : Nat) => (i : Int))
      rw [List.map_map] at this
      exact this
    refine ⟨.list ((ls'.map fun (i : Nat) => (i : Int)).map PyData.int), .list [], .lst (app_at (app_at e3 _) _) di2, .lst new_at .nil, ?_⟩
    simp only [List.head?_nil] at q
    cases hL : isLate n p xs with
    | true =>
      rw [hL] at hl q
      simp only [if_true] at hl q
      cases ls' with
      | nil => cases hl
      | cons w ls' =>
        simp only [List.head?_cons, Option.some.injEq] at hl
        subst hl
        simp only [List.map_cons, PyData.eqv, PyData.eqvAll, Bool.xor_false, if_true, lSeq, lSet, lRet, lRetN, lDrop, lIfS, lOp, lVar, lC, lB, lT, lAnd, lOr, lNot, lIf, lAndV, lOrV, lNotV, lNil, lCons, lTup, lLst, lCB, lBM, lSl, lPart, lNext, lFor, lIt, lRng1, lRng2, lAsg, lPar, lSetI, lSetA, lAugS, lLc, lZip, lNeg, lCall, lChain, List.getElem?_cons_zero, List.getElem?_cons_succ, List.set_cons_zero, List.set_cons_succ, truE, wipeE, intP, intE]
        refine ia_l (app_at (app_at e3 _) _) at0 ⟨by simp [sizeL], ?_⟩
        exact q _ (k4.trans (Keep.app _))
    | false =>
      rw [hL] at hl q
      simp only [Bool.false_eq_true, if_false] at hl q
      cases ls' with
      | cons w ls' => cases hl
      | nil =>
        simp only [List.map_nil, PyData.eqv, PyData.eqvAll, Bool.xor_true, Bool.not_true, Bool.false_eq_true, if_false, lSeq, lSet, lRet, lRetN, lDrop, lIfS, lOp, lVar, lC, lB, lT, lAnd, lOr, lNot, lIf, lAndV, lOrV, lNotV, lNil, lCons, lTup, lLst, lCB, lBM, lSl, lPart, lNext, lFor, lIt, lRng1, lRng2, lAsg, lPar, lSetI, lSetA, lAugS, lLc, lZip, lNeg, lCall, lChain, List.getElem?_cons_zero, List.getElem?_cons_succ, List.set_cons_zero, List.set_cons_succ, truE, wipeE, intP, intE]
        exact ⟨by simp [sizeL], q _ (k4.trans (Keep.app _))⟩
end Y

namespace Y
open PySem PySem.Spec PyProof.Rows L2

structure R14 (l : LKV) (n : Option Nat) : Prop where
  nd : (lkeys l).Nodup
  rg : ∀ q ∈ l, q.1 < 21 ∧ 0 ≤ q.2 ∧ q.2 ≤ 1000000000
  le : ∀ m, n = some m → m < 1000 ∧ ∀ q ∈ l, q.1 < m
theorem R14.len {l : LKV} {n : Option Nat} (z : R14 l n) : l.length ≤ 21 := by
  have := sub_len (a := lkeys l) (b := List.range 21) z.nd fun x hx => by
    obtain ⟨q, hq, rfl⟩ := List.mem_map.mp hx
    exact List.mem_range.mpr (z.rg q hq).1
  simpa using this
theorem R14.ok {l : LKV} {n : Option Nat} (z : R14 l n) : LOk l n := by
  have := z.len
  exact ⟨z.nd, fun q hq => by have := z.rg q hq; omega, by omega, z.le⟩
theorem fw_some : ∀ {l : LKV} {p k : Nat} {xs : List Int}, fw l p xs = some k → p ≤ k ∧ k < p + xs.length
  | l, p, k, [], h => by cases h
  | l, p, k, x :: xs, h => by
    rw [fw] at h
    split at h
    · have := fw_some h
      rw [List.length_cons]; omega
    · cases h
      rw [List.length_cons]; omega
theorem piece_ret {l : LKV} {n : Option Nat} {p : Nat} {xs : List Int} (h : pieceDue l n p xs = .ret) : fw l p xs = none ∧ isLate n p xs = false := by
  unfold pieceDue at h
  cases hf : fw l p xs with
  | some k => rw [hf] at h; cases h
  | none =>
    rw [hf] at h
    cases hL : isLate n p xs with
    | false => exact ⟨rfl, rfl⟩
    | true => rw [hL] at h; cases h
theorem R14.put {l : LKV} {n : Option Nat} (z : R14 l n) {p : Nat} {xs : List Int} (hx : ∀ x ∈ xs, 0 ≤ x ∧ x ≤ 1000000000) (hp : p + xs.length ≤ 21) (h : pieceDue l n p xs = .ret) : R14 (lputs l p xs) n := by
  have nd2 := lputs_nd z.nd p xs
  have hL := (piece_ret h).2
  have cs : ∀ q ∈ lputs l p xs, (p ≤ q.1 ∧ q.1 < p + xs.length ∧ q.2 ∈ xs) ∨ q ∈ l := fun q hq => by
    have e := (lk_mem nd2).mp hq
    rw [lk_puts] at e
    split at e
    · rename_i c
      exact .inl ⟨c.1, c.2, List.mem_of_getElem? e⟩
    · exact .inr ((lk_mem z.nd).mpr e)
  refine ⟨nd2, fun q hq => ?_, fun m hm => ⟨(z.le m hm).1, fun q hq => ?_⟩⟩
  · rcases cs q hq with ⟨a, b, c⟩ | c
    · have := hx _ c; omega
    · exact z.rg q c
  · rcases cs q hq with ⟨a, b, c⟩ | c
    · rw [hm] at hL
      simp only [isLate, Bool.and_eq_false_iff, Bool.not_eq_false', decide_eq_false_iff_not] at hL
      rcases hL with hL | hL
      · have : xs = [] := by simpa using hL
        rw [this] at b; simp at b; omega
      · omega
    · exact (z.le m hm).2 q c
theorem len_ret {l : LKV} {n : Option Nat} {m : Nat} (h : lenDue l n m = .ret) : (∀ k, n = some k → k = m) ∧ ∀ q ∈ l, q.1 < m := by
  have sh : shortDue l m = .ret → ∀ q ∈ l, q.1 < m := fun h q hq => by
    rcases Nat.lt_or_ge q.1 m with c | c
    · exact c
    · exfalso
      unfold shortDue at h
      cases e : ((lkeys l).filter fun j => decide (m ≤ j)).min? with
      | some k => rw [e] at h; cases h
      | none =>
        rw [List.min?_eq_none_iff, List.filter_eq_nil_iff] at e
        have := e q.1 (List.mem_map.mpr ⟨q, hq, rfl⟩)
        simp at this; omega
  unfold lenDue at h
  cases n with
  | none => exact ⟨(fun k z => by cases z), sh h⟩
  | some k =>
    simp only at h
    split at h
    · rename_i c
      exact ⟨fun j z => by cases z; exact c, sh h⟩
    · cases h
theorem R14.close {l : LKV} {n : Option Nat} (z : R14 l n) {m : Nat} (hm : m < 1000) (h : lenDue l n m = .ret) : R14 l (some m) := ⟨z.nd, z.rg, fun k hk => by cases hk; exact ⟨hm, (len_ret h).2⟩⟩
theorem pieceDue_sm {l : LKV} {n : Option Nat} {p : Nat} {xs : List Int} (z : R14 l n) (hp : p + xs.length ≤ 21) : (pieceDue l n p xs).sm := by
  unfold pieceDue
  cases hf : fw l p xs with
  | some k => have := fw_some hf; show k < 10000; omega
  | none =>
    simp only
    split
    · show max p (n.getD 0) < 10000
      cases hn : n with
      | none => simp; omega
      | some m => have := (z.le m hn).1; simp; omega
    · trivial
theorem lenDue_sm {l : LKV} {n : Option Nat} {m : Nat} (z : R14 l n) : (lenDue l n m).sm := by
  have sh : (shortDue l m).sm := by
    unfold shortDue
    cases e : ((lkeys l).filter fun j => decide (m ≤ j)).min? with
    | none => trivial
    | some k =>
      rw [List.min?_eq_some_iff] at e
      obtain ⟨q, hq, rfl⟩ := List.mem_map.mp (List.mem_filter.mp e.1).1
      have := (z.rg q hq).1
      show q.1 < 10000
      omega
  unfold lenDue
  cases hn : n with
  | none => exact sh
  | some k =>
    simp only
    split
    · exact sh
    · have := (z.le k hn).1
      show k < 10000
      omega
def Due.s : Due → List Nat
  | .ret => sRet
  | .contra _ => sCon
  | .beyond _ => sBey
  | .already _ => sAlr
  | .short _ => sSho
theorem due_first {u : Due} {h : EH} {P : EK} (p : P (.str u.s) h) : ixA u.e (.int 0) h P := by
  cases u <;> exact ia_t at0 p
theorem due_isRet (u : Due) : decide (u.s = [114, 101, 116, 117, 114, 110, 101, 100]) = u.isRet := by
  cases u <;> rfl
theorem isRet_ret {u : Due} (h : u.isRet = true) : u = .ret := by
  cases u <;> first | rfl | cases h
theorem isRet_not {u : Due} (h : u.isRet = false) : u ≠ .ret := by
  rintro rfl; cases h
theorem due_x {h : EH} {u : Due} (s : u.sm) : DSX h 100 u.e u.D := (Due.ds (n := 1) s).x (by omega)
def sp__law_piece (ad : Ad) : LSp := fun evs h Q => ∃ b L t place ms, evs = [.ref b, .ref L, tx t, .int (place : Nat)] ∧ BagAt h b ∧ h[L]? = some (.lst (ms.map EV.int)) ∧ ms ≠ [] ∧ ms.length ≤ 1000 ∧ L ≠ b ∧ (∀ x ∈ ms, 0 ≤ x ∧ x ≤ 1000000000) ∧ (∀ x ∈ t, 0 ≤ x ∧ x ≤ 1000000000) ∧
  ∀ xs h', (∀ x ∈ xs, 0 ≤ x ∧ x ≤ 1000000000) → xs.length ≤ 6 → Keep (is1 b) h h' → BagAt h' b → Q (tx xs) h'
def sp__law_step_k14 (ad : Ad) : LSp := fun evs h Q => ∃ b r L p d k t l n ms, evs = [.ref b, .ref r, .ref L] ∧ BagAt h b ∧ h[L]? = some (.lst (ms.map EV.int)) ∧ ms ≠ [] ∧ ms.length ≤ 1000 ∧ L ≠ b ∧ (∀ x ∈ ms, 0 ≤ x ∧ x ≤ 1000000000) ∧ (∀ x ∈ t, 0 ≤ x ∧ x ≤ 1000000000) ∧ RowAt ad h r p d k t l n ∧ R14 l n ∧ b < r ∧ b < p ∧ b < d ∧ b < k ∧ d ≠ k ∧
  ∀ l' n' h', Keep (is5 b r p d k) h h' → BagAt h' b → RowAt ad h' r p d k t l' n' → R14 l' n' → Q (.bl true) h'
abbrev N__law_piece : List Str := ["_law_bag_here", "_law_letters", "_law_text", "_law_place", "_law_piece_here", "_law_k", "_law_at"]
def t__law_piece_2 (ad : Ad) : LS :=
    lRet (lVar 4)
def t__law_piece_1 (ad : Ad) : LS :=
    lSeq (lFor (lRng1 (lCons (lIf (lB (lOp (eqE true) (lVar 4) (lTup (lNil)))) (lCall (sp__law_one ad) (lCons (lVar 0) (lCons (lLst (lCons (lC (.int 0)) (lCons (lC (.int 1)) (lCons (lC (.int 0)) (lCons (lC (.int 2)) (lCons (lC (.int 3)) (lNil))))))) (lNil)))) (lC (.int 0))) (lNil))) (.nm 5)
      (lSeq (lSet (lCall (sp__law_take ad) (lCons (lVar 0) (lCons (lCB lenE (lCons (lVar 4) (lNil))) (lNil)))) 6) <|
    lSet (lOp addE (lOp addE (lSl (lVar 4) (lPart none) (lPart (some (lVar 6)))) (lTup (lCons (lCall (sp__law_one ad) (lCons (lVar 0) (lCons (lVar 1) (lNil)))) (lNil)))) (lSl (lVar 4) (lPart (some (lOp addE (lVar 6) (lC (.int 1))))) (lPart none))) 4)) <| t__law_piece_2 ad
def t__law_piece_0 (ad : Ad) : LS :=
    lSeq (lSet (lSl (lVar 2) (lPart (some (lVar 3))) (lPart (some (lOp addE (lVar 3) (lCall (sp__law_one ad) (lCons (lVar 0) (lCons (lLst (lCons (lC (.int 1)) (lCons (lC (.int 3)) (lCons (lC (.int 6)) (lCons (lC (.int 2)) (lCons (lC (.int 0)) (lNil))))))) (lNil)))))))) 4) <| t__law_piece_1 ad
def t__law_piece (ad : Ad) : LS :=
    lSeq (lSet (lSl (lVar 2) (lPart (some (lVar 3))) (lPart (some (lOp addE (lVar 3) (lCall (sp__law_one ad) (lCons (lVar 0) (lCons (lLst (lCons (lC (.int 1)) (lCons (lC (.int 3)) (lCons (lC (.int 6)) (lCons (lC (.int 2)) (lCons (lC (.int 0)) (lNil))))))) (lNil)))))))) 4) <|
    lSeq (lFor (lRng1 (lCons (lIf (lB (lOp (eqE true) (lVar 4) (lTup (lNil)))) (lCall (sp__law_one ad) (lCons (lVar 0) (lCons (lLst (lCons (lC (.int 0)) (lCons (lC (.int 1)) (lCons (lC (.int 0)) (lCons (lC (.int 2)) (lCons (lC (.int 3)) (lNil))))))) (lNil)))) (lC (.int 0))) (lNil))) (.nm 5)
      (lSeq (lSet (lCall (sp__law_take ad) (lCons (lVar 0) (lCons (lCB lenE (lCons (lVar 4) (lNil))) (lNil)))) 6) <|
    lSet (lOp addE (lOp addE (lSl (lVar 4) (lPart none) (lPart (some (lVar 6)))) (lTup (lCons (lCall (sp__law_one ad) (lCons (lVar 0) (lCons (lVar 1) (lNil)))) (lNil)))) (lSl (lVar 4) (lPart (some (lOp addE (lVar 6) (lC (.int 1))))) (lPart none))) 4)) <|
    lRet (lVar 4)
abbrev N__law_step_k14 : List Str := ["_law_bag_here", "_law_row", "_law_letters", "_law_lane", "_law_text", "_law_known", "_law_length", "_law_end", "_law_due", "_law_place", "_law_piece_here", "_law_at"]
def t__law_step_k14_6 (ad : Ad) : LS :=
    lRet (lCall (sp__law_alikeX ad) (lCons (lCall (sp__law_received ad) (lCons (lVar 3) (lCons (lVar 9) (lCons (lVar 10) (lNil))))) (lCons (lVar 8) (lNil))))
def t__law_step_k14_5 (ad : Ad) : LS :=
    lSeq (lIfS (lB (lOp (eqE false) (lOp ixA (lVar 8) (lC (.int 0))) (lC (.str [114, 101, 116, 117, 114, 110, 101, 100]))))
      (lFor (lRng1 (lCons (lCB lenE (lCons (lVar 10) (lNil))) (lNil))) (.nm 11)
      (lSetA (lVar 5) (lOp addE (lVar 9) (lVar 11)) (lOp ixA (lVar 10) (lVar 11))))
      (lNext)) <| t__law_step_k14_6 ad
def t__law_step_k14_4 (ad : Ad) : LS :=
    lSeq (lSet (lCall (sp__law_piece_due ad) (lCons (lVar 5) (lCons (lVar 6) (lCons (lVar 9) (lCons (lVar 10) (lNil)))))) 8) <| t__law_step_k14_5 ad
def t__law_step_k14_3 (ad : Ad) : LS :=
    lSeq (lSet (lCall (sp__law_piece ad) (lCons (lVar 0) (lCons (lVar 2) (lCons (lVar 4) (lCons (lVar 9) (lNil)))))) 10) <| t__law_step_k14_4 ad
def t__law_step_k14_2 (ad : Ad) : LS :=
    lSeq (lSet (lCall (sp__law_take ad) (lCons (lVar 0) (lCons (lC (.int 15)) (lNil)))) 9) <| t__law_step_k14_3 ad
def t__law_step_k14_1 (ad : Ad) : LS :=
    lSeq (lIfS (lB (lOp (eqE false) (lCall (sp__law_take ad) (lCons (lVar 0) (lCons (lC (.int 5)) (lNil)))) (lC (.int 0))))
      (lSeq (lSet (lCall (sp__law_one ad) (lCons (lVar 0) (lCons (lLst (lCons (lCB lenE (lCons (lVar 5) (lNil))) (lCons (lCall (sp__law_take ad) (lCons (lVar 0) (lCons (lC (.int 22)) (lNil)))) (lCons (lOrT (lVar 6) (lC (.int 0))) (lNil))))) (lNil)))) 7) <|
    lSeq (lSet (lCall (sp__law_length_due ad) (lCons (lVar 5) (lCons (lVar 6) (lCons (lVar 7) (lNil))))) 8) <|
    lSeq (lIfS (lB (lOp (eqE false) (lOp ixA (lVar 8) (lC (.int 0))) (lC (.str [114, 101, 116, 117, 114, 110, 101, 100]))))
      (lSetA (lVar 1) (lC (.int 3)) (lVar 7))
      (lNext)) <|
    lRet (lCall (sp__law_alikeX ad) (lCons (lCall (sp__law_closed ad) (lCons (lVar 3) (lCons (lVar 7) (lNil)))) (lCons (lVar 8) (lNil)))))
      (lNext)) <| t__law_step_k14_2 ad
def t__law_step_k14_0 (ad : Ad) : LS :=
    lSeq (lAsg (lVar 1) (.tp [.nm 3, .nm 4, .nm 5, .nm 6])) <| t__law_step_k14_1 ad
def t__law_step_k14 (ad : Ad) : LS :=
    lSeq (lAsg (lVar 1) (.tp [.nm 3, .nm 4, .nm 5, .nm 6])) <|
    lSeq (lIfS (lB (lOp (eqE false) (lCall (sp__law_take ad) (lCons (lVar 0) (lCons (lC (.int 5)) (lNil)))) (lC (.int 0))))
      (lSeq (lSet (lCall (sp__law_one ad) (lCons (lVar 0) (lCons (lLst (lCons (lCB lenE (lCons (lVar 5) (lNil))) (lCons (lCall (sp__law_take ad) (lCons (lVar 0) (lCons (lC (.int 22)) (lNil)))) (lCons (lOrT (lVar 6) (lC (.int 0))) (lNil))))) (lNil)))) 7) <|
    lSeq (lSet (lCall (sp__law_length_due ad) (lCons (lVar 5) (lCons (lVar 6) (lCons (lVar 7) (lNil))))) 8) <|
    lSeq (lIfS (lB (lOp (eqE false) (lOp ixA (lVar 8) (lC (.int 0))) (lC (.str [114, 101, 116, 117, 114, 110, 101, 100]))))
      (lSetA (lVar 1) (lC (.int 3)) (lVar 7))
      (lNext)) <|
    lRet (lCall (sp__law_alikeX ad) (lCons (lCall (sp__law_closed ad) (lCons (lVar 3) (lCons (lVar 7) (lNil)))) (lCons (lVar 8) (lNil)))))
      (lNext)) <|
    lSeq (lSet (lCall (sp__law_take ad) (lCons (lVar 0) (lCons (lC (.int 15)) (lNil)))) 9) <|
    lSeq (lSet (lCall (sp__law_piece ad) (lCons (lVar 0) (lCons (lVar 2) (lCons (lVar 4) (lCons (lVar 9) (lNil)))))) 10) <|
    lSeq (lSet (lCall (sp__law_piece_due ad) (lCons (lVar 5) (lCons (lVar 6) (lCons (lVar 9) (lCons (lVar 10) (lNil)))))) 8) <|
    lSeq (lIfS (lB (lOp (eqE false) (lOp ixA (lVar 8) (lC (.int 0))) (lC (.str [114, 101, 116, 117, 114, 110, 101, 100]))))
      (lFor (lRng1 (lCons (lCB lenE (lCons (lVar 10) (lNil))) (lNil))) (.nm 11)
      (lSetA (lVar 5) (lOp addE (lVar 9) (lVar 11)) (lOp ixA (lVar 10) (lVar 11))))
      (lNext)) <|
    lRet (lCall (sp__law_alikeX ad) (lCons (lCall (sp__law_received ad) (lCons (lVar 3) (lCons (lVar 9) (lCons (lVar 10) (lNil))))) (lCons (lVar 8) (lNil))))
abbrev N_law_k14 : List Str := ["_law_script", "_law_bag_here", "_law_turn", "_law_letters", "_law_row", "_law_k", "_law_twin"]
def t_law_k14_2 (ad : Ad) : LS :=
    lRet (lC (.bl true))
def t_law_k14_1b_5 (ad : Ad) : LS :=
    lIfS (lNot (lT (lCall (sp__law_right ad) (lCons (lOp ixA (lVar 4) (lC (.int 0))) (lCons (lOp ixA (lVar 4) (lC (.int 2))) (lCons (lOp ixA (lVar 4) (lC (.int 3))) (lNil)))))))
      (lRet (lC (.bl false)))
      (lNext)
def t_law_k14_1b_4 (ad : Ad) : LS :=
    lSeq (lIfS (lOr (lNot (lT (lCall (sp__law_alikeX ad) (lCons (lLst (lCons (lOp (eqO ad.a_Lane [ad.a_Lane] (sp_Lane___eq__ ad) (eqE false)) (lVar 6) (lOp ixA (lVar 4) (lC (.int 0)))) (lCons (lOp (eqO ad.a_Lane [ad.a_Lane] (sp_Lane___eq__ ad) (eqE false)) (lOp ixA (lVar 4) (lC (.int 0))) (lVar 6)) (lNil)))) (lCons (lLst (lCons (lC (.bl true)) (lCons (lC (.bl true)) (lNil)))) (lNil)))))) (lNot (lT (lCall (sp__law_right ad) (lCons (lVar 6) (lCons (lOp ixA (lVar 4) (lC (.int 2))) (lCons (lOp ixA (lVar 4) (lC (.int 3))) (lNil))))))))
      (lRet (lC (.bl false)))
      (lNext)) <| t_law_k14_1b_5 ad
def t_law_k14_1b_3 (ad : Ad) : LS :=
    lSeq (lSet (lMet (List.lookup · [(ad.a_Lane, (sp_Lane_twin ad))]) (lOp ixA (lVar 4) (lC (.int 0))) lNil) 6) <| t_law_k14_1b_4 ad
def t_law_k14_1b_2b_1 (ad : Ad) : LS :=
    lIfS (lAnd (lB (lOp (eqE false) (lCall (sp__law_take ad) (lCons (lVar 1) (lCons (lC (.int 2)) (lNil)))) (lC (.int 0)))) (lNot (lT (lCall (sp__law_right ad) (lCons (lOp ixA (lVar 4) (lC (.int 0))) (lCons (lOp ixA (lVar 4) (lC (.int 2))) (lCons (lOp ixA (lVar 4) (lC (.int 3))) (lNil))))))))
      (lRet (lC (.bl false)))
      (lNext)
def t_law_k14_1b_2b_0 (ad : Ad) : LS :=
    lSeq (lIfS (lNot (lT (lCall (sp__law_step_k14 ad) (lCons (lVar 1) (lCons (lVar 4) (lCons (lVar 3) (lNil)))))))
      (lRet (lC (.bl false)))
      (lNext)) <| t_law_k14_1b_2b_1 ad
def t_law_k14_1b_2 (ad : Ad) : LS :=
    lSeq (lFor (lRng1 (lCons (lC (.int 24)) (lNil))) (.nm 5)
      (t_law_k14_1b_2b_0 ad)) <| t_law_k14_1b_3 ad
def t_law_k14_1b_1 (ad : Ad) : LS :=
    lSeq (lSet (lLst (lCons (lMake ad.a_Lane (sp_Lane___init__ ad) lNil) (lCons (lCall (sp__law_full ad) (lCons (lVar 1) (lCons (lVar 3) (lCons (lC (.int 21)) (lNil))))) (lCons (lDnew) (lCons (lC .non) (lNil)))))) 4) <| t_law_k14_1b_2 ad
def t_law_k14_1b_0 (ad : Ad) : LS :=
    lSeq (lSet (lOp addE (lCall (sp__law_alphabet ad) (lCons (lVar 1) (lNil))) (lLst (lCons (lC (.int 7)) (lNil)))) 3) <| t_law_k14_1b_1 ad
def t_law_k14_1 (ad : Ad) : LS :=
    lSeq (lFor (lRng1 (lCons (lC (.int 2)) (lNil))) (.nm 2)
      (t_law_k14_1b_0 ad)) <| t_law_k14_2 ad
def t_law_k14_0 (ad : Ad) : LS :=
    lSeq (lSet (lCall (sp__law_bag ad) (lCons (lVar 0) (lNil))) 1) <| t_law_k14_1 ad
def t_law_k14 (ad : Ad) : LS :=
    lSeq (lSet (lCall (sp__law_bag ad) (lCons (lVar 0) (lNil))) 1) <|
    lSeq (lFor (lRng1 (lCons (lC (.int 2)) (lNil))) (.nm 2)
      (lSeq (lSet (lOp addE (lCall (sp__law_alphabet ad) (lCons (lVar 1) (lNil))) (lLst (lCons (lC (.int 7)) (lNil)))) 3) <|
    lSeq (lSet (lLst (lCons (lMake ad.a_Lane (sp_Lane___init__ ad) lNil) (lCons (lCall (sp__law_full ad) (lCons (lVar 1) (lCons (lVar 3) (lCons (lC (.int 21)) (lNil))))) (lCons (lDnew) (lCons (lC .non) (lNil)))))) 4) <|
    lSeq (lFor (lRng1 (lCons (lC (.int 24)) (lNil))) (.nm 5)
      (lSeq (lIfS (lNot (lT (lCall (sp__law_step_k14 ad) (lCons (lVar 1) (lCons (lVar 4) (lCons (lVar 3) (lNil)))))))
      (lRet (lC (.bl false)))
      (lNext)) <|
    lIfS (lAnd (lB (lOp (eqE false) (lCall (sp__law_take ad) (lCons (lVar 1) (lCons (lC (.int 2)) (lNil)))) (lC (.int 0)))) (lNot (lT (lCall (sp__law_right ad) (lCons (lOp ixA (lVar 4) (lC (.int 0))) (lCons (lOp ixA (lVar 4) (lC (.int 2))) (lCons (lOp ixA (lVar 4) (lC (.int 3))) (lNil))))))))
      (lRet (lC (.bl false)))
      (lNext))) <|
    lSeq (lSet (lMet (List.lookup · [(ad.a_Lane, (sp_Lane_twin ad))]) (lOp ixA (lVar 4) (lC (.int 0))) lNil) 6) <|
    lSeq (lIfS (lOr (lNot (lT (lCall (sp__law_alikeX ad) (lCons (lLst (lCons (lOp (eqO ad.a_Lane [ad.a_Lane] (sp_Lane___eq__ ad) (eqE false)) (lVar 6) (lOp ixA (lVar 4) (lC (.int 0)))) (lCons (lOp (eqO ad.a_Lane [ad.a_Lane] (sp_Lane___eq__ ad) (eqE false)) (lOp ixA (lVar 4) (lC (.int 0))) (lVar 6)) (lNil)))) (lCons (lLst (lCons (lC (.bl true)) (lCons (lC (.bl true)) (lNil)))) (lNil)))))) (lNot (lT (lCall (sp__law_right ad) (lCons (lVar 6) (lCons (lOp ixA (lVar 4) (lC (.int 2))) (lCons (lOp ixA (lVar 4) (lC (.int 3))) (lNil))))))))
      (lRet (lC (.bl false)))
      (lNext)) <|
    lIfS (lNot (lT (lCall (sp__law_right ad) (lCons (lOp ixA (lVar 4) (lC (.int 0))) (lCons (lOp ixA (lVar 4) (lC (.int 2))) (lCons (lOp ixA (lVar 4) (lC (.int 3))) (lNil)))))))
      (lRet (lC (.bl false)))
      (lNext))) <|
    lRet (lC (.bl true))
theorem len__law_piece (ad : Ad) (evs : List EV) (h : EH) (Q : EK) (q : sp__law_piece ad evs h Q) : evs.length = ["_law_bag_here", "_law_letters", "_law_text", "_law_place"].length := by
  obtain ⟨_, _, _, _, _, rfl, _⟩ := q; rfl
theorem len__law_step_k14 (ad : Ad) (evs : List EV) (h : EH) (Q : EK) (q : sp__law_step_k14 ad evs h Q) : evs.length = ["_law_bag_here", "_law_row", "_law_letters"].length := by
  obtain ⟨_, _, _, _, _, _, _, _, _, _, rfl, _⟩ := q; rfl
theorem pure__law_piece (ad : Ad) (evs : List EV) (h : EH) (Q : EK) (q : sp__law_piece ad evs h Q) : t__law_piece ad (endsOf Q) (startE N__law_piece evs) h := by
  obtain ⟨b, L, t, p, ms, rfl, B, eL, m0, ml, Lb, mr, tr, q⟩ := q
  show t__law_piece_0 ad (endsOf Q) [some (.ref b), some (.ref L), some (tx t), some (.int p), none, none, none] h
  unfold t__law_piece_0
  rw [lSeq, lSet]
  simp only [lSl, lPart, lOp, lCall, lCons, lNil, lLst, lVar, lC, List.getElem?_cons_zero, List.getElem?_cons_succ]
  refine ⟨by simp [sizeL], ?_⟩
  have hb := B.lt
  refine ⟨b, h.length, _, rfl, new_at, by simp, by simp [sizeL], by omega, B.keep (Keep.app _), fun x h1 hx k1 B1 => ?_⟩
  obtain ⟨c, rfl, c6⟩ : ∃ c : Nat, x = .int c ∧ c ≤ 6 := by
    simp only [List.mem_cons, List.not_mem_nil, or_false] at hx
    rcases hx with rfl | rfl | rfl | rfl | rfl
    · exact ⟨1, rfl, by decide⟩
    · exact ⟨3, rfl, by decide⟩
    · exact ⟨6, rfl, by decide⟩
    · exact ⟨2, rfl, by decide⟩
    · exact ⟨0, rfl, by decide⟩
  have k1' := (Keep.app (b := is1 b) (h := h) _).trans k1
  have eL1 := k1'.other eL Lb
  simp only [addE, slE, tx_cut]
  have pr : ∀ x ∈ pcL t (p, c), 0 ≤ x ∧ x ≤ 1000000000 := fun x hx => tr x (List.mem_of_mem_drop (List.mem_of_mem_take hx))
  have pl : (pcL t (p, c)).length ≤ 6 := by have := pcL_len t (p, c); simp only at this; omega
  generalize pcL t (p, c) = xs at *
  simp only [List.set_cons_zero, List.set_cons_succ]
  clear k1 hx eL B
  have loop : ∀ (m : Nat) h2, (m ≤ 3) → (xs = [] → m = 0) → Keep (is1 b) h h2 → BagAt h2 b → h2[L]? = some (.lst (ms.map EV.int)) → loopE lTrue (.nm 5) (lSeq (lSet (lCall (sp__law_take ad) (lCons (lVar 0) (lCons (lCB lenE (lCons (lVar 4) (lNil))) (lNil)))) 6) <|
    lSet (lOp addE (lOp addE (lSl (lVar 4) (lPart none) (lPart (some (lVar 6)))) (lTup (lCons (lCall (sp__law_one ad) (lCons (lVar 0) (lCons (lVar 1) (lNil)))) (lNil)))) (lSl (lVar 4) (lPart (some (lOp addE (lVar 6) (lC (.int 1))))) (lPart none))) 4) { endsOf Q with nx := t__law_piece_2 ad (endsOf Q) } (rangeL 0 m) [some (.ref b), some (.ref L), some (tx t), some (.int p), some (tx xs), none, none] h2 := by
    intro m h2 hm hm0 k2 B2 eL2
    refine loop_nat m (fun i env h' => ∃ (y5 y6 : Option EV) (ys : List Int), env = [some (.ref b), some (.ref L), some (tx t), some (.int p), some (tx ys), y5, y6] ∧ Keep (is1 b) h h' ∧ BagAt h' b ∧ h'[L]? = some (.lst (ms.map EV.int)) ∧ (∀ x ∈ ys, 0 ≤ x ∧ x ≤ 1000000000) ∧ ys.length = xs.length) ?_ ?_ _ _ ⟨_, _, xs, rfl, k2, B2, eL2, pr, rfl⟩
    · rintro env h3 ⟨y5, y6, ys, rfl, k3, B3, eL3, yr, yl⟩
      refine ⟨trivial, ?_⟩
      simp only [t__law_piece_2, lSet, lRet, lRetN, lDrop, lOp, lVar, lC, lB, lT, lAnd, lOr, lNot, lIf, lAndV, lOrV, lNotV, lNil, lCons, lTup, lLst, lCB, lBM, lSl, lPart, lNext, lIt, lRng1, lRng2, lAsg, lPar, lSetI, lSetA, lAugS, lLc, lZip, lNeg, lCall, lChain, List.getElem?_cons_zero, List.getElem?_cons_succ, List.set_cons_zero, List.set_cons_succ, wipeE, intP, intE, lRet]
      exact q ys h3 yr (by omega) k3 B3
    · rintro i env h3 kk hi ⟨y5, y6, ys, rfl, k3, B3, eL3, yr, yl⟩ hk
      refine ⟨trivial, bind_nm ?_⟩
      simp only [List.set_cons_zero, List.set_cons_succ]
      have xl : 0 < xs.length := by
        cases hxs : xs with
        | nil => have := hm0 hxs; omega
        | cons _ _ => simp
      rw [lSeq, lSet]
      simp only [lCall, lCons, lNil, lCB, lVar, lenE, List.getElem?_cons_zero, List.getElem?_cons_succ, List.length_map]
      refine ⟨b, ys.length, rfl, by omega, by omega, B3, fun a h4 a0 a1 k4 B4 => ?_⟩
      obtain ⟨a, rfl⟩ := Int.eq_ofNat_of_zero_le a0
      have eL4 := k4.other eL3 Lb
      simp only [List.set_cons_zero, List.set_cons_succ]
      rw [lSet]
      simp only [lOp, lSl, lPart, lTup, lCall, lCons, lNil, lVar, lC, slE, List.getElem?_cons_zero, List.getElem?_cons_succ]
      refine ⟨b, L, _, rfl, eL4, by simpa using m0, by rw [List.length_map, sizeL]; omega, Lb, B4, fun v h5 hv k5 B5 => ?_⟩
      obtain ⟨x, hx, rfl⟩ := List.mem_map.mp hv
      refine ⟨by simp [sizeL], ?_⟩
      simp only [addE, cut_to, ← List.map_take]
      refine ⟨by simp [sizeL]; omega, ?_⟩
      rw [show ((a : Int) + 1) = ((a + 1 : Nat) : Int) by omega, cut_from, ← List.map_drop]
      refine ⟨by simp [sizeL]; omega, ?_⟩
      have ee : (ys.take a).map EV.int ++ [EV.int x] ++ (ys.drop (a + 1)).map EV.int = (ys.take a ++ [x] ++ ys.drop (a + 1)).map EV.int := by simp
      rw [ee]
      refine hk _ _ ⟨_, _, ys.take a ++ [x] ++ ys.drop (a + 1), rfl, k3.trans (k4.trans k5), B5, k5.other eL4 Lb, fun y hy => ?_, ?_⟩
      · simp only [List.mem_append, List.mem_singleton] at hy
        rcases hy with (hy | rfl) | hy
        · exact yr y (List.mem_of_mem_take hy)
        · exact mr y hx
        · exact yr y (List.mem_of_mem_drop hy)
      · rw [← yl]
        simp only [List.length_append, List.length_take, List.length_drop, List.length_singleton]
        omega
  unfold t__law_piece_1
  try dsimp only
  rw [lSeq, lFor]
  simp only [lRng1, lCons, lNil, lIf, lB, lOp, lVar, lTup, List.getElem?_cons_zero, List.getElem?_cons_succ]
  refine ⟨by simp [sizeL], tx_ne ?_⟩
  cases hE : xs.isEmpty with
  | true =>
    simp only [Bool.not_true, Bool.false_eq_true, if_false, lC]
    refine ⟨⟨by decide, by decide⟩, ?_⟩
    exact loop 0 h1 (by omega) (fun _ => rfl) k1' B1 eL1
  | false =>
    simp only [Bool.not_false, if_true, lCall, lCons, lNil, lLst, lVar, lC, List.getElem?_cons_zero]
    refine ⟨by simp [sizeL], ?_⟩
    have hb1 := B1.lt
    refine ⟨b, h1.length, _, rfl, new_at, by simp, by simp [sizeL], by omega, B1.keep (Keep.app _), fun x h2 hx k2 B2 => ?_⟩
    obtain ⟨m, rfl, m3⟩ : ∃ c : Nat, x = .int c ∧ c ≤ 3 := by
      simp only [List.mem_cons, List.not_mem_nil, or_false] at hx
      rcases hx with rfl | rfl | rfl | rfl | rfl
      · exact ⟨0, rfl, by decide⟩
      · exact ⟨1, rfl, by decide⟩
      · exact ⟨0, rfl, by decide⟩
      · exact ⟨2, rfl, by decide⟩
      · exact ⟨3, rfl, by decide⟩
    have k2' := (Keep.app (b := is1 b) (h := h1) _).trans k2
    refine ⟨⟨by omega, by omega⟩, ?_⟩
    rw [show ((m : Int)).toNat = m by omega]
    exact loop m h2 m3 (fun z => by rw [z] at hE; cases hE) (k1'.trans k2') B2 (k2'.other eL1 Lb)
theorem pure__law_step_k14 (ad : Ad) (evs : List EV) (h : EH) (Q : EK) (q : sp__law_step_k14 ad evs h Q) : t__law_step_k14 ad (endsOf Q) (startE N__law_step_k14 evs) h := by
  obtain ⟨b, r, L, p, d, k, t, l, n, ms, rfl, B, eL, m0, ml, Lb, mr, tr, R, ok, br, bp, bd, bk, dk, q⟩ := q
  show t__law_step_k14_0 ad (endsOf Q) [some (.ref b), some (.ref r), some (.ref L), none, none, none, none, none, none, none, none, none] h
  have ne1 : r ≠ p ∧ r ≠ d ∧ r ≠ k ∧ p ≠ d ∧ p ≠ k := by
    refine ⟨?_, ?_, ?_, lane_ne R.z, ?_⟩ <;> rintro rfl
    · have := R.r.symm.trans R.z.o; cases this
    · have := R.r.symm.trans R.z.d; cases this
    · have := R.r.symm.trans R.k; cases this
    · have := R.z.o.symm.trans R.k; cases this
  obtain ⟨rp, rd, rk, pd, pk⟩ := ne1
  have len := ok.len
  unfold t__law_step_k14_0
  rw [lSeq, lAsg]
  simp only [lVar, List.getElem?_cons_zero, List.getElem?_cons_succ]
  refine row_bind R.r ?_
  simp only [List.set_cons_zero, List.set_cons_succ]
  have kf : ∀ h', Keep (is1 b) h h' → Keep (is5 b r p d k) h h' := fun h' k => k.weak fun r hr => .inl hr
  have keepR : ∀ {h1 : EH}, Keep (is1 b) h h1 → RowAt ad h1 r p d k t l n := fun k1 => R.keepS k1 (by unfold is1; omega) (by unfold is1; omega) (by unfold is1; omega) (by unfold is1; omega)
  unfold t__law_step_k14_1
  try dsimp only
  rw [lSeq, lIfS]
  simp only [lB, lOp, lCall, lCons, lNil, lVar, lC, List.getElem?_cons_zero, List.getElem?_cons_succ]
  refine ⟨b, 5, rfl, by decide, by decide, B, fun c h1 _ _ k1 B1 => ?_⟩
  have R1 := keepR k1
  have eL1 := k1.other eL Lb
  refine eq_i ?_
  simp only [Bool.false_xor]
  by_cases c0 : c = 0
  · simp only [c0, decide_true, if_true]
    rw [lSeq, lSet]
    simp only [lCall, lCons, lNil, lLst, lCB, lVar, lC, List.getElem?_cons_zero, List.getElem?_cons_succ, lenE, R1.k]
    refine ⟨b, 22, rfl, by decide, by decide, B1, fun w h2 w0 w1 k2 B2 => ?_⟩
    obtain ⟨w, rfl⟩ := Int.eq_ofNat_of_zero_le w0
    have eo : ∀ (P : EK) (h : EH), P (.int ((n.getD 0 : Nat) : Int)) h → lOrT (lVar 6) (lC (.int 0)) [some (.ref b), some (.ref r), some (.ref L), some (.ref p), some (tx t), some (.ref k), some (lnE n), none, none, none, none, none] h P := by
      intro P h p
      simp only [lOrT, lVar, lC, List.getElem?_cons_zero, List.getElem?_cons_succ]
      cases n with
      | none => simpa [lnE, truE] using p
      | some m =>
        simp only [lnE, truE]
        by_cases c : m = 0
        · subst c; simpa using p
        · have : (((m : Nat) : Int) != 0) = true := by simp; omega
          rw [this]
          simpa using p
    refine eo _ _ ⟨by simp [sizeL], ?_⟩
    have hb2 := B2.lt
    refine ⟨b, h2.length, _, rfl, new_at, by simp, by simp [sizeL], by omega, B2.keep (Keep.app _), fun x h3 hx k3 B3 => ?_⟩
    obtain ⟨m, rfl, hm⟩ : ∃ c : Nat, x = .int c ∧ c < 1000 := by
      have hl : (lnKV l).length = l.length := by simp [lnKV]
      simp only [List.mem_cons, List.not_mem_nil, or_false, hl] at hx
      rcases hx with rfl | rfl | rfl
      · exact ⟨l.length, rfl, by omega⟩
      · exact ⟨w, rfl, by omega⟩
      · refine ⟨n.getD 0, rfl, ?_⟩
        cases hn : n with
        | none => decide
        | some m => exact (ok.le m hn).1
    have kA : Keep (is1 b) h h3 := k1.trans (k2.trans ((Keep.app _).trans k3))
    have R3 := keepR kA
    simp only [List.set_cons_zero, List.set_cons_succ]
    rw [lSeq, lSet]
    simp only [lCall, lCons, lNil, lVar, List.getElem?_cons_zero, List.getElem?_cons_succ]
    refine ⟨k, m, l, n, rfl, R3.k, ok.nd, by omega, fun h4 k4 => ?_⟩
    have kB : Keep (is1 b) h h4 := kA.trans k4.all
    have R4 := keepR kB
    have B4 := B3.keep k4
    have sm := lenDue_sm (m := m) ok
    simp only [List.set_cons_zero, List.set_cons_succ]
    clear eo R3 B3 k3 R1 B1 B2 k2 kA eL1 k1 k4
    rw [lSeq, lIfS]
    simp only [lB, lOp, lVar, lC, List.getElem?_cons_zero, List.getElem?_cons_succ]
    refine due_first ?_
    refine eq_s ?_
    rw [due_isRet]
    simp only [Bool.false_xor]
    cases hr : (lenDue l n m).isRet with
    | true =>
      have er := isRet_ret hr
      simp only [if_true]
      rw [lSetA]
      simp only [lVar, lC, List.getElem?_cons_zero, List.getElem?_cons_succ]
      refine sa_l R4.r (k := 3) rfl ?_
      simp only [List.set_cons_zero, List.set_cons_succ]
      have r5 := set_at (o := EO.lst [.ref p, tx t, .ref k, .int m]) R4.r
      have z5 := lanePut (o := EO.lst [.ref p, tx t, .ref k, .int m]) R4.z (fun z => rp z.symm) (fun z => rd z.symm)
      have e5 := set_off (o := EO.lst [.ref p, tx t, .ref k, .int m]) R4.k (fun z => rk z.symm)
      have B5 := B4.set (o := EO.lst [.ref p, tx t, .ref k, .int m]) br
      have k5 : Keep (is5 b r p d k) h (h4.set r (EO.lst [.ref p, tx t, .ref k, .int m])) := (kf _ kB).trans (Keep.set (.inr (.inl rfl)))
      generalize h4.set r (EO.lst [.ref p, tx t, .ref k, .int m]) = h5 at *
      rw [lRet]
      simp only [lCall, lCons, lNil, lVar, List.getElem?_cons_zero, List.getElem?_cons_succ]
      refine ⟨p, d, m, l, n, rfl, z5, by omega, fun _ h6 k6 z6 => ?_, fun ne => absurd er ne⟩
      rw [er] at sm ⊢
      refine alikeX_ok (due_x sm) (due_x sm) (by omega) ?_
      exact q l (some m) h6 (k5.trans (k6.weak fun r hr => .inr (.inr (.inl hr)))) (B5.keepS k6 fun r hr => by unfold is1; omega) ⟨k6.2 _ _ r5 (by unfold is1; omega), z6, k6.2 _ _ e5 (by unfold is1; omega)⟩ (ok.close hm er)
    | false =>
      have er := isRet_not hr
      simp only [Bool.false_eq_true, if_false, lNext]
      rw [lRet]
      simp only [lCall, lCons, lNil, lVar, List.getElem?_cons_zero, List.getElem?_cons_succ]
      refine ⟨p, d, m, l, n, rfl, R4.z, by omega, fun e => absurd e er, fun _ h6 k6 => ?_⟩
      refine alikeX_ok (due_x sm) (due_x sm) (by omega) ?_
      have kC := kB.trans k6.all
      exact q l n h6 (kf _ kC) (B4.keep k6) (keepR kC) ok
  · simp only [c0, decide_false, Bool.false_eq_true, if_false, lNext]
    unfold t__law_step_k14_2
    try dsimp only
    rw [lSeq, lSet]
    simp only [lCall, lCons, lNil, lVar, lC, List.getElem?_cons_zero, List.getElem?_cons_succ]
    refine ⟨b, 15, rfl, by decide, by decide, B1, fun pl h2 p0 p1 k2 B2 => ?_⟩
    obtain ⟨pl, rfl⟩ := Int.eq_ofNat_of_zero_le p0
    simp only [List.set_cons_zero, List.set_cons_succ]
    unfold t__law_step_k14_3
    try dsimp only
    rw [lSeq, lSet]
    simp only [lCall, lCons, lNil, lVar, List.getElem?_cons_zero, List.getElem?_cons_succ]
    refine ⟨b, L, t, pl, ms, rfl, B2, k2.other eL1 Lb, m0, ml, Lb, mr, tr, fun xs h3 xr xl k3 B3 => ?_⟩
    have kA : Keep (is1 b) h h3 := k1.trans (k2.trans k3)
    have R3 := keepR kA
    simp only [List.set_cons_zero, List.set_cons_succ]
    unfold t__law_step_k14_4
    try dsimp only
    rw [lSeq, lSet]
    simp only [lCall, lCons, lNil, lVar, List.getElem?_cons_zero, List.getElem?_cons_succ]
    refine ⟨k, pl, l, n, xs, rfl, R3.k, by omega, fun h4 k4 => ?_⟩
    have kB : Keep (is1 b) h h4 := kA.trans k4.all
    have R4 := keepR kB
    have B4 := B3.keep k4
    have sm := pieceDue_sm (p := pl) (xs := xs) ok (by omega)
    simp only [List.set_cons_zero, List.set_cons_succ]
    clear R3 B3 k3 R1 B1 B2 k2 kA eL1 k1 k4
    unfold t__law_step_k14_5
    try dsimp only
    rw [lSeq, lIfS]
    simp only [lB, lOp, lVar, lC, List.getElem?_cons_zero, List.getElem?_cons_succ]
    refine due_first ?_
    refine eq_s ?_
    rw [due_isRet]
    simp only [Bool.false_xor]
    cases hr : (pieceDue l n pl xs).isRet with
    | true =>
      have er := isRet_ret hr
      have ok' := ok.put xr (by omega) er
      simp only [if_true]
      rw [lFor]
      simp only [lRng1, lCons, lNil, lCB, lVar, lenE, List.length_map, List.getElem?_cons_zero, List.getElem?_cons_succ]
      refine ⟨⟨by omega, by omega⟩, ?_⟩
      rw [show ((xs.length : Int)).toNat = xs.length by omega]
      refine loop_nat xs.length (fun i env h' => ∃ y11 : Option EV, env = [some (.ref b), some (.ref r), some (.ref L), some (.ref p), some (tx t), some (.ref k), some (lnE n), none, some (pieceDue l n pl xs).e, some (.int pl), some (tx xs), y11] ∧ Keep (is1 k) h4 h' ∧ h'[k]? = some (.dic (lnKV (lputs l pl (xs.take i))))) ?_ ?_ _ _ ⟨_, rfl, .refl, R4.k⟩
      · rintro env h5 ⟨y11, rfl, k5, e5⟩
        refine ⟨trivial, ?_⟩
        rw [List.take_length] at e5
        have z5 := R4.z.keepS k5 (by unfold is1; omega) (by unfold is1; omega)
        have B5 := B4.keepS k5 fun r hr => by unfold is1; omega
        have r5 := k5.2 _ _ R4.r (by unfold is1; omega)
        unfold t__law_step_k14_6
        try dsimp only
        rw [lRet]
        simp only [lCall, lCons, lNil, lVar, List.getElem?_cons_zero, List.getElem?_cons_succ]
        refine ⟨p, d, pl, l, n, xs, rfl, z5, by omega, by omega, by omega, fun _ h6 k6 z6 => ?_, fun ne => absurd er ne⟩
        rw [er] at sm ⊢
        refine alikeX_ok (due_x sm) (due_x sm) (by omega) ?_
        have kC : Keep (is5 b r p d k) h h6 := ((kf _ kB).trans (k5.weak fun r hr => .inr (.inr (.inr (.inr hr))))).trans (k6.weak fun r hr => .inr (.inr (.inr (.inl hr))))
        exact q _ n h6 kC (B5.keepS k6 fun r hr => by unfold is1; omega) ⟨k6.2 _ _ r5 (by unfold is1; omega), z6, k6.2 _ _ e5 (by unfold is1; omega)⟩ ok'
      · rintro i env h5 kk hi ⟨y11, rfl, k5, e5⟩ hk
        refine ⟨trivial, bind_nm ?_⟩
        simp only [List.set_cons_zero, List.set_cons_succ]
        rw [lSetA]
        simp only [lOp, lVar, List.getElem?_cons_zero, List.getElem?_cons_succ]
        refine ia_t (tx_at hi) ?_
        refine add_i ?_
        have := lputs_len l pl (xs.take i)
        have := List.length_take_le i xs
        simp only [setA, e5, isKey, true_and]
        refine ⟨by simp [lnKV, sizeL]; omega, ?_⟩
        rw [show ((pl : Int) + (i : Nat)) = ((pl + i : Nat) : Int) by omega, ln_put]
        refine hk _ _ ⟨_, rfl, k5.trans (Keep.set rfl), ?_⟩
        rw [set_at e5]
        rw [List.take_succ_eq_append_getElem hi, lputs_app, lputs, lputs, List.length_take, Nat.min_eq_left (Nat.le_of_lt hi), List.getD_eq_getElem?_getD, List.getElem?_eq_getElem hi]
        rfl
    | false =>
      have er := isRet_not hr
      simp only [Bool.false_eq_true, if_false, lNext]
      unfold t__law_step_k14_6
      try dsimp only
      rw [lRet]
      simp only [lCall, lCons, lNil, lVar, List.getElem?_cons_zero, List.getElem?_cons_succ]
      refine ⟨p, d, pl, l, n, xs, rfl, R4.z, by omega, by omega, by omega, fun e => absurd e er, fun _ h6 k6 => ?_⟩
      refine alikeX_ok (due_x sm) (due_x sm) (by omega) ?_
      have kC := kB.trans k6.all
      exact q l n h6 (kf _ kC) (B4.keep k6) (keepR kC) ok
theorem pure_law_k14 (ad : Ad) (evs : List EV) (h : EH) (Q : EK) (q : spTop 63 evs h Q) : t_law_k14 ad (endsOf Q) (startE N_law_k14 evs) h := by
  obtain ⟨ns0, rfl, rfl, hl0, q⟩ := q
  show t_law_k14_0 ad (endsOf Q) [some (.ref 0), none, none, none, none, none, none] _
  unfold t_law_k14_0
  try dsimp only
  rw [lSeq, lSet]
  refine ⟨ns0, rfl, rfl, hl0, fun b h1 B1 => ?_⟩
  unfold t_law_k14_1
  try dsimp only
  rw [lSeq, lFor]
  simp only [lSet, lRet, lRetN, lDrop, lOp, lVar, lC, lB, lT, lAnd, lOr, lNot, lIf, lAndV, lOrV, lNotV, lNil, lCons, lTup, lLst, lCB, lBM, lSl, lPart, lNext, lIt, lRng1, lRng2, lAsg, lPar, lSetI, lSetA, lAugS, lLc, lZip, lNeg, lCall, lChain, List.getElem?_cons_zero, List.getElem?_cons_succ, List.set_cons_zero, List.set_cons_succ, wipeE, intP, intE]
  refine ⟨⟨by decide, by decide⟩, ?_⟩
  refine loop_nat 2 (fun _ env h' => ∃ x2 x3 x4 x5 x6 : Option EV, env = [some (.ref 0), some (.ref b), x2, x3, x4, x5, x6] ∧ BagAt h' b) ?_ ?_ _ _ ⟨_, _, _, _, _, rfl, B1⟩
  · rintro env h' ⟨_, _, _, _, _, rfl, B⟩
    refine ⟨trivial, ?_⟩
    simp only [t_law_k14_2, lSet, lRet, lRetN, lDrop, lOp, lVar, lC, lB, lT, lAnd, lOr, lNot, lIf, lAndV, lOrV, lNotV, lNil, lCons, lTup, lLst, lCB, lBM, lSl, lPart, lNext, lIt, lRng1, lRng2, lAsg, lPar, lSetI, lSetA, lAugS, lLc, lZip, lNeg, lCall, lChain, List.getElem?_cons_zero, List.getElem?_cons_succ, List.set_cons_zero, List.set_cons_succ, wipeE, intP, intE]
    exact q _
  rintro i env h2 kk hi ⟨_, _, _, x5, x6, rfl, B2⟩ hk
  refine ⟨trivial, bind_nm ?_⟩
  simp only [List.set_cons_zero, List.set_cons_succ]
  have hb2 := B2.lt
  unfold t_law_k14_1b_0
  rw [lSeq, lSet]
  simp only [lSet, lRet, lRetN, lDrop, lOp, lVar, lC, lB, lT, lAnd, lOr, lNot, lIf, lAndV, lOrV, lNotV, lNil, lCons, lTup, lLst, lCB, lBM, lSl, lPart, lNext, lIt, lRng1, lRng2, lAsg, lPar, lSetI, lSetA, lAugS, lLc, lZip, lNeg, lCall, lChain, List.getElem?_cons_zero, List.getElem?_cons_succ, List.set_cons_zero, List.set_cons_succ, wipeE, intP, intE]
  refine ⟨b, rfl, B2, fun L0 ns h3 nd n0 n4 nr k3 l3 e3 B3 => ?_⟩
  refine ⟨by simp [sizeL], ?_⟩
  refine add_l (app_at e3 _) new_at (by simp [sizeL]; omega) ?_
  have em : ns.map EV.int ++ [EV.int 7] = (ns ++ [7]).map EV.int := by simp
  rw [em]
  have mr : ∀ x ∈ ns ++ [7], 0 ≤ x ∧ x ≤ 1000000000 := fun x hx => by
    rcases List.mem_append.mp hx with z | z
    · exact nr x z
    · rw [List.mem_singleton.mp z]; decide
  have ml : (ns ++ [7]).length ≤ 5 := by simp; omega
  have m0 : ns ++ [7] ≠ [] := by simp
  generalize ns ++ [7] = ms at *
  have B4 := B3.keep ((Keep.app [EO.lst [.int 7]]).trans (Keep.app [EO.lst (ms.map EV.int)]))
  have e4 : (h3 ++ [EO.lst [.int 7]] ++ [EO.lst (ms.map EV.int)])[(h3 ++ [EO.lst [.int 7]]).length]? = some (.lst (ms.map EV.int)) := new_at
  have hb3 := B3.lt
  have Lb : b < (h3 ++ [EO.lst [.int 7]]).length := by simp; omega
  generalize h3 ++ [EO.lst [.int 7]] ++ [EO.lst (ms.map EV.int)] = h4 at *
  generalize (h3 ++ [EO.lst [.int 7]]).length = L at *
  clear em e3 k3 l3 B3 hb3 hb2
  -- the row
  unfold t_law_k14_1b_1
  try dsimp only
  rw [lSeq, lSet]
  simp only [lLst, lCons, lNil, lCall, lVar, lC, lDnew, List.getElem?_cons_zero, List.getElem?_cons_succ]
  have hL := lt_of_at e4
  refine make_lane fun d h5 k5 ld z => ?_
  refine ⟨b, L, 21, ms, rfl, k5.at e4, m0, by omega, by omega, by omega, B4.keep k5, fun t h6 lt mt k6 B6 => ?_⟩
  have tr : ∀ x ∈ t, 0 ≤ x ∧ x ≤ 1000000000 := fun x hx => mr x (mt x hx)
  have zl := lane_lt z
  have z := z.keepS k6 (by unfold is1; omega) (by unfold is1; omega)
  have e6 := k6.other (k5.at e4) (by omega)
  refine ⟨by simp [sizeL], ?_⟩
  have kB : Keep no1 h6 (h6 ++ [EO.dic []] ++ [EO.lst [.ref h4.length, tx t, .ref h6.length, .non]]) := (Keep.app _).trans (Keep.app _)
  have z := z.keep kB
  have g : (h6 ++ [EO.dic []] ++ [EO.lst [.ref h4.length, tx t, .ref h6.length, .non]])[h6.length]? = some (.dic (lnKV [])) := app_at new_at _
  have rr : (h6 ++ [EO.dic []] ++ [EO.lst [.ref h4.length, tx t, .ref h6.length, .non]])[(h6 ++ [EO.dic []]).length]? = some (.lst [.ref h4.length, tx t, .ref h6.length, .non]) := new_at
  have B7 := B6.keep kB
  have e7 := kB.at e6
  have q1 : h6.length < (h6 ++ [EO.dic []]).length := by simp
  have l56 := k6.1
  generalize h6 ++ [EO.dic []] ++ [EO.lst [.ref h4.length, tx t, .ref h6.length, .non]] = h7 at *
  generalize (h6 ++ [EO.dic []]).length = R at *
  generalize h6.length = K at *
  generalize h4.length = p at *
  have o : b < L ∧ L < p ∧ p < d ∧ d < K ∧ K < R := by omega
  simp only [List.set_cons_zero, List.set_cons_succ]
  clear k5 k6 e4 e6 B6 B4
  -- call by call
  unfold t_law_k14_1b_2
  try dsimp only
  rw [lSeq, lFor]
  simp only [lSet, lRet, lRetN, lDrop, lOp, lVar, lC, lB, lT, lAnd, lOr, lNot, lIf, lAndV, lOrV, lNotV, lNil, lCons, lTup, lLst, lCB, lBM, lSl, lPart, lNext, lIt, lRng1, lRng2, lAsg, lPar, lSetI, lSetA, lAugS, lLc, lZip, lNeg, lCall, lChain, List.getElem?_cons_zero, List.getElem?_cons_succ, List.set_cons_zero, List.set_cons_succ, wipeE, intP, intE]
  refine ⟨⟨by decide, by decide⟩, ?_⟩
  refine loop_nat 24 (fun _ env h' => ∃ (y5 : Option EV) (l : LKV) (n : Option Nat), env = [some (.ref 0), some (.ref b), some (.int i), some (.ref L), some (.ref R), y5, x6] ∧ BagAt h' b ∧ h'[L]? = some (.lst (ms.map EV.int)) ∧ RowAt ad h' R p d K t l n ∧ R14 l n) ?_ ?_ _ _ ⟨_, [], none, rfl, B7, e7, ⟨rr, z, g⟩, ⟨List.nodup_nil, (fun q hq => by cases hq), fun m hm => nomatch hm⟩⟩
  · rintro env h8 ⟨y5, l, n, rfl, B8, e8, rw8, ok⟩
    refine ⟨trivial, ?_⟩
    have lo := ok.ok
    unfold t_law_k14_1b_3
    try dsimp only
    rw [lSeq, lSet]
    simp only [lMet, lOp, lVar, lC, List.getElem?_cons_zero, List.getElem?_cons_succ]
    refine ia_l rw8.r at0 ?_
    refine met0_lane rw8.z ⟨p, d, l, n, rfl, rw8.z, fun p2 d2 h9 k9 lp2 ld2 z2 => ?_⟩
    have rw9 := rw8.keep k9
    have B9 := B8.keep k9
    simp only [List.set_cons_zero, List.set_cons_succ]
    unfold t_law_k14_1b_4
    try dsimp only
    rw [lSeq, lIfS]
    simp only [lOr, lNot, lT, lCall, lCons, lNil, lLst, lOp, lVar, lC, List.getElem?_cons_zero, List.getElem?_cons_succ]
    refine ia_l rw9.r at0 ?_
    refine eqO_lane z2 rw9.z ?_
    refine ia_l rw9.r at0 ?_
    refine eqO_lane rw9.z z2 ?_
    rw [lEq_perm ok.nd (.refl l), decide_eq_true rfl]
    refine ⟨by simp [sizeL], ⟨by simp [sizeL], ?_⟩⟩
    refine alikeX_ok (two_ds (app_at new_at _)) (two_ds new_at) (by omega) ?_
    simp only [truE, Bool.not_true, Bool.false_eq_true, if_false]
    have kC : Keep no1 h9 (h9 ++ [EO.lst [.bl (true && true), .bl (true && true)]] ++ [EO.lst [.bl true, .bl true]]) := (Keep.app _).trans (Keep.app _)
    have rw10 := rw9.keep kC
    have z2 := z2.keep kC
    have B10 := B9.keep kC
    refine ia_l rw10.r at2 ?_
    refine ia_l rw10.r at3 ?_
    refine ⟨p2, d2, K, l, n, rfl, z2, rw10.k, lo, fun h11 k11 => ?_⟩
    simp only [truE, Bool.not_true, Bool.false_eq_true, if_false, lNext]
    have rw11 := rw10.keep k11
    have B11 := B10.keep k11
    unfold t_law_k14_1b_5
    try dsimp only
    rw [lIfS]
    simp only [lNot, lT, lCall, lCons, lNil, lOp, lVar, lC, List.getElem?_cons_zero, List.getElem?_cons_succ]
    refine ia_l rw11.r at0 ?_
    refine ia_l rw11.r at2 ?_
    refine ia_l rw11.r at3 ?_
    refine ⟨p, d, K, l, n, rfl, rw11.z, rw11.k, lo, fun h12 k12 => ?_⟩
    simp only [truE, Bool.not_true, Bool.false_eq_true, if_false, lNext]
    exact hk _ _ ⟨_, _, _, _, _, rfl, B11.keep k12⟩
  · rintro j env h8 kk2 hj ⟨y5, l, n, rfl, B8, e8, rw8, ok⟩ hk2
    refine ⟨trivial, bind_nm ?_⟩
    simp only [List.set_cons_zero, List.set_cons_succ]
    unfold t_law_k14_1b_2b_0
    try dsimp only
    rw [lSeq, lIfS]
    simp only [lNot, lT, lCall, lCons, lNil, lVar, List.getElem?_cons_zero, List.getElem?_cons_succ]
    refine ⟨b, R, L, p, d, K, t, l, n, ms, rfl, B8, e8, m0, by omega, by omega, mr, tr, rw8, ok, by omega, by omega, by omega, by omega, by omega, fun l' n' h9 k9 B9 rw9 ok' => ?_⟩
    simp only [truE, Bool.not_true, Bool.false_eq_true, if_false, lNext]
    have e9 := k9.2 _ _ e8 (by unfold is5; omega)
    unfold t_law_k14_1b_2b_1
    try dsimp only
    rw [lIfS]
    simp only [lAnd, lB, lNot, lT, lCall, lCons, lNil, lOp, lVar, lC, List.getElem?_cons_zero, List.getElem?_cons_succ]
    refine ⟨b, 2, rfl, by decide, by decide, B9, fun c h10 c0 c1 k10 B10 => ?_⟩
    have rw10 := rw9.keepS k10 (by unfold is1; omega) (by unfold is1; omega) (by unfold is1; omega) (by unfold is1; omega)
    have e10 := k10.other e9 (by omega)
    refine eq_i ?_
    simp only [Bool.false_xor]
    by_cases cc : c = 0
    · simp only [cc, decide_true, if_true]
      refine ia_l rw10.r at0 ?_
      refine ia_l rw10.r at2 ?_
      refine ia_l rw10.r at3 ?_
      refine ⟨p, d, K, l', n', rfl, rw10.z, rw10.k, ok'.ok, fun h11 k11 => ?_⟩
      simp only [truE, Bool.not_true, Bool.false_eq_true, if_false, lNext]
      exact hk2 _ _ ⟨_, l', n', rfl, B10.keep k11, k11.at e10, rw10.keep k11, ok'⟩
    · simp only [cc, decide_false, Bool.false_eq_true, if_false, lNext]
      exact hk2 _ _ ⟨_, l', n', rfl, B10, e10, rw10, ok'⟩
end Y

namespace Y
open PySem PySem.Spec PyProof.Rows L2
def top (i : Nat) : Stmt := PySem.Challenge.pw_saidearly_k14_lanes_refuse.main.body.getD i (.Pass ⟨0, 0, 0, 0⟩)
abbrev s_runs_without : Stmt := top 7
abbrev s_Lane___init__ : Stmt := inClass (top 8) 1
abbrev s_Lane___eq__ : Stmt := inClass (top 8) 2
abbrev s_Lane_receive__X : Stmt := inClass (top 8) 3
abbrev s_Lane_close__X : Stmt := inClass (top 8) 4
abbrev s_Lane_head : Stmt := inClass (top 8) 5
abbrev s_Lane_told_length : Stmt := inClass (top 8) 6
abbrev s_Lane_known : Stmt := inClass (top 8) 7
abbrev s_Lane_gaps : Stmt := inClass (top 8) 8
abbrev s_Lane_is_whole : Stmt := inClass (top 8) 9
abbrev s_Lane_twin : Stmt := inClass (top 8) 10
abbrev s__law_bag : Stmt := top 10
abbrev s__law_take : Stmt := top 11
abbrev s__law_one : Stmt := top 12
abbrev s__law_mixed : Stmt := top 13
abbrev s__law_alphabet : Stmt := top 14
abbrev s__law_full : Stmt := top 15
abbrev s__law_alike : Stmt := top 16
abbrev s__law_gaps : Stmt := top 17
abbrev s__law_head : Stmt := top 18
abbrev s__law_right : Stmt := top 19
abbrev s__law_received : Stmt := top 20
abbrev s__law_closed : Stmt := top 21
abbrev s__law_piece_due : Stmt := top 22
abbrev s__law_length_due : Stmt := top 23
abbrev s__law_piece : Stmt := top 24
abbrev s__law_step : Stmt := top 25
abbrev s_law : Stmt := top 26
abbrev M_runs_without : List Str := ["letters", "end", "found", "begin", "place"]
abbrev M_Lane___init__ : List Str := ["self"]
abbrev M_Lane___eq__ : List Str := ["self", "other"]
abbrev M_Lane_receive__X : List Str := ["self", "place", "text", "spot", "letter"]
abbrev M_Lane_close__X : List Str := ["self", "length", "beyond", "place"]
abbrev M_Lane_head : List Str := ["self", "found"]
abbrev M_Lane_told_length : List Str := ["self"]
abbrev M_Lane_known : List Str := ["self", "place"]
abbrev M_Lane_gaps : List Str := ["self", "end", "place"]
abbrev M_Lane_is_whole : List Str := ["self"]
abbrev M_Lane_twin : List Str := ["self", "found"]
abbrev M__law_bag : List Str := ["_law_script", "_law_cell"]
abbrev M__law_take : List Str := ["_law_bag_here", "_law_many", "_law_cell", "_law_mixed_here", "_law_drawn", "_law_early", "_law_second"]
abbrev M__law_one : List Str := ["_law_bag_here", "_law_some"]
abbrev M__law_mixed : List Str := ["_law_bag_here", "_law_things", "_law_found", "_law_thing"]
abbrev M__law_alphabet : List Str := ["_law_bag_here"]
abbrev M__law_full : List Str := ["_law_bag_here", "_law_letters", "_law_size", "_law_k"]
abbrev M__law_alike : List Str := ["_law_found", "_law_due"]
abbrev M__law_gaps : List Str := ["_law_known", "_law_length", "_law_end", "_law_found", "_law_begin", "_law_place", "_law_free"]
abbrev M__law_head : List Str := ["_law_known", "_law_found", "_law_place"]
abbrev M__law_right : List Str := ["_law_lane", "_law_known", "_law_length", "_law_due", "_law_head_here", "_law_told", "_law_place"]
abbrev M__law_received : List Str := ["_law_lane", "_law_place", "_law_piece_here", "_law_told", "e"]
abbrev M__law_closed : List Str := ["_law_lane", "_law_length", "_law_told", "e"]
abbrev M__law_piece_due : List Str := ["_law_known", "_law_length", "_law_place", "_law_piece_here", "_law_spots", "_law_wrong", "_law_late", "_law_at", "_law_spot"]
abbrev M__law_length_due : List Str := ["_law_known", "_law_length", "_law_end", "_law_late", "_law_place"]
abbrev M__law_piece : List Str := ["_law_bag_here", "_law_letters", "_law_text", "_law_place", "_law_piece_here", "_law_k", "_law_at"]
abbrev M__law_step : List Str := ["_law_bag_here", "_law_row", "_law_letters", "_law_lane", "_law_text", "_law_known", "_law_length", "_law_end", "_law_due", "_law_place", "_law_piece_here", "_law_at"]
abbrev M_law : List Str := ["_law_script", "_law_bag_here", "_law_turn", "_law_letters", "_law_row", "_law_k", "_law_twin"]

abbrev FnP (K : PySem.W.Frag) (x q : Str) (st : Stmt) (f : Addr) (fd : FuncData) : Prop := FunD K x q (defArgs st) (defBody st) (defScope st) [] [] f fd
structure Fs (P : Program) (w : World) (K : PySem.W.Frag) (mg : Str → Option Value) : Type where
  ad : Ad
  f_runs_without : Addr
  d_runs_without : FuncData
  F_runs_without : FnP K "runs_without" "runs_without" s_runs_without f_runs_without d_runs_without
  g_runs_without : mg "runs_without" = some (.ref f_runs_without)
  f_Lane___init__ : Addr
  d_Lane___init__ : FuncData
  F_Lane___init__ : FnP K "__init__" "Lane.__init__" s_Lane___init__ f_Lane___init__ d_Lane___init__
  k_Lane : Mk K ad.a_Lane f_Lane___init__
  i_Lane : IsiOk K ad.a_Lane
  f_Lane___eq__ : Addr
  d_Lane___eq__ : FuncData
  F_Lane___eq__ : FnP K "__eq__" "Lane.__eq__" s_Lane___eq__ f_Lane___eq__ d_Lane___eq__
  m_Lane___eq__ : Meth K ad.a_Lane "__eq__" f_Lane___eq__
  f_Lane_receive__X : Addr
  d_Lane_receive__X : FuncData
  F_Lane_receive__X : FnP K "receive" "Lane.receive" s_Lane_receive__X f_Lane_receive__X d_Lane_receive__X
  m_Lane_receive__X : Meth K ad.a_Lane "receive" f_Lane_receive__X
  f_Lane_close__X : Addr
  d_Lane_close__X : FuncData
  F_Lane_close__X : FnP K "close" "Lane.close" s_Lane_close__X f_Lane_close__X d_Lane_close__X
  m_Lane_close__X : Meth K ad.a_Lane "close" f_Lane_close__X
  f_Lane_head : Addr
  d_Lane_head : FuncData
  F_Lane_head : FnP K "head" "Lane.head" s_Lane_head f_Lane_head d_Lane_head
  m_Lane_head : Meth K ad.a_Lane "head" f_Lane_head
  f_Lane_told_length : Addr
  d_Lane_told_length : FuncData
  F_Lane_told_length : FnP K "told_length" "Lane.told_length" s_Lane_told_length f_Lane_told_length d_Lane_told_length
  m_Lane_told_length : Meth K ad.a_Lane "told_length" f_Lane_told_length
  f_Lane_known : Addr
  d_Lane_known : FuncData
  F_Lane_known : FnP K "known" "Lane.known" s_Lane_known f_Lane_known d_Lane_known
  m_Lane_known : Meth K ad.a_Lane "known" f_Lane_known
  f_Lane_gaps : Addr
  d_Lane_gaps : FuncData
  F_Lane_gaps : FnP K "gaps" "Lane.gaps" s_Lane_gaps f_Lane_gaps d_Lane_gaps
  m_Lane_gaps : Meth K ad.a_Lane "gaps" f_Lane_gaps
  f_Lane_is_whole : Addr
  d_Lane_is_whole : FuncData
  F_Lane_is_whole : FnP K "is_whole" "Lane.is_whole" s_Lane_is_whole f_Lane_is_whole d_Lane_is_whole
  m_Lane_is_whole : Meth K ad.a_Lane "is_whole" f_Lane_is_whole
  f_Lane_twin : Addr
  d_Lane_twin : FuncData
  F_Lane_twin : FnP K "twin" "Lane.twin" s_Lane_twin f_Lane_twin d_Lane_twin
  m_Lane_twin : Meth K ad.a_Lane "twin" f_Lane_twin
  f__law_bag : Addr
  d__law_bag : FuncData
  F__law_bag : FnP K "_law_bag" "_law_bag" s__law_bag f__law_bag d__law_bag
  g__law_bag : mg "_law_bag" = some (.ref f__law_bag)
  f__law_take : Addr
  d__law_take : FuncData
  F__law_take : FnP K "_law_take" "_law_take" s__law_take f__law_take d__law_take
  g__law_take : mg "_law_take" = some (.ref f__law_take)
  f__law_one : Addr
  d__law_one : FuncData
  F__law_one : FnP K "_law_one" "_law_one" s__law_one f__law_one d__law_one
  g__law_one : mg "_law_one" = some (.ref f__law_one)
  f__law_mixed : Addr
  d__law_mixed : FuncData
  F__law_mixed : FnP K "_law_mixed" "_law_mixed" s__law_mixed f__law_mixed d__law_mixed
  g__law_mixed : mg "_law_mixed" = some (.ref f__law_mixed)
  f__law_alphabet : Addr
  d__law_alphabet : FuncData
  F__law_alphabet : FnP K "_law_alphabet" "_law_alphabet" s__law_alphabet f__law_alphabet d__law_alphabet
  g__law_alphabet : mg "_law_alphabet" = some (.ref f__law_alphabet)
  f__law_full : Addr
  d__law_full : FuncData
  F__law_full : FnP K "_law_full" "_law_full" s__law_full f__law_full d__law_full
  g__law_full : mg "_law_full" = some (.ref f__law_full)
  f__law_alike : Addr
  d__law_alike : FuncData
  F__law_alike : FnP K "_law_alike" "_law_alike" s__law_alike f__law_alike d__law_alike
  g__law_alike : mg "_law_alike" = some (.ref f__law_alike)
  f__law_gaps : Addr
  d__law_gaps : FuncData
  F__law_gaps : FnP K "_law_gaps" "_law_gaps" s__law_gaps f__law_gaps d__law_gaps
  g__law_gaps : mg "_law_gaps" = some (.ref f__law_gaps)
  f__law_head : Addr
  d__law_head : FuncData
  F__law_head : FnP K "_law_head" "_law_head" s__law_head f__law_head d__law_head
  g__law_head : mg "_law_head" = some (.ref f__law_head)
  f__law_right : Addr
  d__law_right : FuncData
  F__law_right : FnP K "_law_right" "_law_right" s__law_right f__law_right d__law_right
  g__law_right : mg "_law_right" = some (.ref f__law_right)
  f__law_received : Addr
  d__law_received : FuncData
  F__law_received : FnP K "_law_received" "_law_received" s__law_received f__law_received d__law_received
  g__law_received : mg "_law_received" = some (.ref f__law_received)
  f__law_closed : Addr
  d__law_closed : FuncData
  F__law_closed : FnP K "_law_closed" "_law_closed" s__law_closed f__law_closed d__law_closed
  g__law_closed : mg "_law_closed" = some (.ref f__law_closed)
  f__law_piece_due : Addr
  d__law_piece_due : FuncData
  F__law_piece_due : FnP K "_law_piece_due" "_law_piece_due" s__law_piece_due f__law_piece_due d__law_piece_due
  g__law_piece_due : mg "_law_piece_due" = some (.ref f__law_piece_due)
  f__law_length_due : Addr
  d__law_length_due : FuncData
  F__law_length_due : FnP K "_law_length_due" "_law_length_due" s__law_length_due f__law_length_due d__law_length_due
  g__law_length_due : mg "_law_length_due" = some (.ref f__law_length_due)
  f__law_piece : Addr
  d__law_piece : FuncData
  F__law_piece : FnP K "_law_piece" "_law_piece" s__law_piece f__law_piece d__law_piece
  g__law_piece : mg "_law_piece" = some (.ref f__law_piece)
  f__law_step : Addr
  d__law_step : FuncData
  F__law_step : FnP K "_law_step" "_law_step" s__law_step f__law_step d__law_step
  g__law_step : mg "_law_step" = some (.ref f__law_step)
  f_law : Addr
  d_law : FuncData
  F_law : FnP K "law" "law" s_law f_law d_law
  g_law : mg "law" = some (.ref f_law)
  g_Lane : mg "Lane" = some (.ref ad.a_Lane)
  sc_Lane : SlX.SCls K ad.a_Lane
  s_Lane_its_length : ∃ p, SlX.Slot1 K ad.a_Lane "its_length" p 0
  s_Lane_its_letters : ∃ p, SlX.Slot1 K ad.a_Lane "its_letters" p 1
  I_Lane : IsiC K ad.a_Lane [(ad.a_Lane, true)]
  q_Lane : EqC K ad.a_Lane [ad.a_Lane]
  g_AlreadyEnded : mg "AlreadyEnded" = some (.ref ad.a_AlreadyEnded)
  x_AlreadyEnded : ExcC P K ad.a_AlreadyEnded "length" "length"
  g_BeyondEnd : mg "BeyondEnd" = some (.ref ad.a_BeyondEnd)
  x_BeyondEnd : ExcC P K ad.a_BeyondEnd "place" "place"
  g_Contradiction : mg "Contradiction" = some (.ref ad.a_Contradiction)
  x_Contradiction : ExcC P K ad.a_Contradiction "place" "place"
  g_EndsShort : mg "EndsShort" = some (.ref ad.a_EndsShort)
  x_EndsShort : ExcC P K ad.a_EndsShort "place" "place"
  e_AlreadyEnded_AlreadyEnded : PySem.W.exmOne K (.ref ad.a_AlreadyEnded) (.ref ad.a_AlreadyEnded) = some true
  e_BeyondEnd_BeyondEnd : PySem.W.exmOne K (.ref ad.a_BeyondEnd) (.ref ad.a_BeyondEnd) = some true
  e_BeyondEnd_Contradiction : PySem.W.exmOne K (.ref ad.a_BeyondEnd) (.ref ad.a_Contradiction) = some false
  e_Contradiction_Contradiction : PySem.W.exmOne K (.ref ad.a_Contradiction) (.ref ad.a_Contradiction) = some true
  e_EndsShort_AlreadyEnded : PySem.W.exmOne K (.ref ad.a_EndsShort) (.ref ad.a_AlreadyEnded) = some false
  e_EndsShort_EndsShort : PySem.W.exmOne K (.ref ad.a_EndsShort) (.ref ad.a_EndsShort) = some true
  n_abs : mg "abs" = none
  n_dict : mg "dict" = none
  n_enumerate : mg "enumerate" = none
  n_int : mg "int" = none
  n_isinstance : mg "isinstance" = none
  n_len : mg "len" = none
  n_max : mg "max" = none
  n_min : mg "min" = none
  n_range : mg "range" = none
  n_repr : mg "repr" = none
  n_sorted : mg "sorted" = none
  n_tuple : mg "tuple" = none
theorem sc_runs_without : FnScope M_runs_without ["letters", "end"] (defScope s_runs_without) := ⟨rfl, rfl, rfl, by decide +kernel, rfl, by decide +kernel, by decide +kernel⟩
theorem b_runs_without {K : PySem.W.Frag} {f : Addr} {fd : FuncData} (F : FnP K "runs_without" "runs_without" s_runs_without f fd) : Binds K fd ["letters", "end"] [] := F.bindsN fun _ _ _ _ _ _ us hl => match us, hl with | [_, _], _ => rfl
theorem sc_Lane___init__ : FnScope M_Lane___init__ ["self"] (defScope s_Lane___init__) := ⟨rfl, rfl, rfl, by decide +kernel, rfl, by decide +kernel, by decide +kernel⟩
theorem b_Lane___init__ {K : PySem.W.Frag} {f : Addr} {fd : FuncData} (F : FnP K "__init__" "Lane.__init__" s_Lane___init__ f fd) : Binds K fd ["self"] [] := F.bindsN fun _ _ _ _ _ _ us hl => match us, hl with | [_], _ => rfl
theorem sc_Lane___eq__ : FnScope M_Lane___eq__ ["self", "other"] (defScope s_Lane___eq__) := ⟨rfl, rfl, rfl, by decide +kernel, rfl, by decide +kernel, by decide +kernel⟩
theorem b_Lane___eq__ {K : PySem.W.Frag} {f : Addr} {fd : FuncData} (F : FnP K "__eq__" "Lane.__eq__" s_Lane___eq__ f fd) : Binds K fd ["self", "other"] [] := F.bindsN fun _ _ _ _ _ _ us hl => match us, hl with | [_, _], _ => rfl
theorem sc_Lane_receive__X : FnScope M_Lane_receive__X ["self", "place", "text"] (defScope s_Lane_receive__X) := ⟨rfl, rfl, rfl, by decide +kernel, rfl, by decide +kernel, by decide +kernel⟩
theorem b_Lane_receive__X {K : PySem.W.Frag} {f : Addr} {fd : FuncData} (F : FnP K "receive" "Lane.receive" s_Lane_receive__X f fd) : Binds K fd ["self", "place", "text"] [] := F.bindsN fun _ _ _ _ _ _ us hl => match us, hl with | [_, _, _], _ => rfl
theorem sc_Lane_close__X : FnScope M_Lane_close__X ["self", "length"] (defScope s_Lane_close__X) := ⟨rfl, rfl, rfl, by decide +kernel, rfl, by decide +kernel, by decide +kernel⟩
theorem b_Lane_close__X {K : PySem.W.Frag} {f : Addr} {fd : FuncData} (F : FnP K "close" "Lane.close" s_Lane_close__X f fd) : Binds K fd ["self", "length"] [] := F.bindsN fun _ _ _ _ _ _ us hl => match us, hl with | [_, _], _ => rfl
theorem sc_Lane_head : FnScope M_Lane_head ["self"] (defScope s_Lane_head) := ⟨rfl, rfl, rfl, by decide +kernel, rfl, by decide +kernel, by decide +kernel⟩
theorem b_Lane_head {K : PySem.W.Frag} {f : Addr} {fd : FuncData} (F : FnP K "head" "Lane.head" s_Lane_head f fd) : Binds K fd ["self"] [] := F.bindsN fun _ _ _ _ _ _ us hl => match us, hl with | [_], _ => rfl
theorem sc_Lane_told_length : FnScope M_Lane_told_length ["self"] (defScope s_Lane_told_length) := ⟨rfl, rfl, rfl, by decide +kernel, rfl, by decide +kernel, by decide +kernel⟩
theorem b_Lane_told_length {K : PySem.W.Frag} {f : Addr} {fd : FuncData} (F : FnP K "told_length" "Lane.told_length" s_Lane_told_length f fd) : Binds K fd ["self"] [] := F.bindsN fun _ _ _ _ _ _ us hl => match us, hl with | [_], _ => rfl
theorem sc_Lane_known : FnScope M_Lane_known ["self"] (defScope s_Lane_known) := ⟨rfl, rfl, rfl, by decide +kernel, rfl, by decide +kernel, by decide +kernel⟩
theorem b_Lane_known {K : PySem.W.Frag} {f : Addr} {fd : FuncData} (F : FnP K "known" "Lane.known" s_Lane_known f fd) : Binds K fd ["self"] [] := F.bindsN fun _ _ _ _ _ _ us hl => match us, hl with | [_], _ => rfl
theorem sc_Lane_gaps : FnScope M_Lane_gaps ["self"] (defScope s_Lane_gaps) := ⟨rfl, rfl, rfl, by decide +kernel, rfl, by decide +kernel, by decide +kernel⟩
theorem b_Lane_gaps {K : PySem.W.Frag} {f : Addr} {fd : FuncData} (F : FnP K "gaps" "Lane.gaps" s_Lane_gaps f fd) : Binds K fd ["self"] [] := F.bindsN fun _ _ _ _ _ _ us hl => match us, hl with | [_], _ => rfl
theorem sc_Lane_is_whole : FnScope M_Lane_is_whole ["self"] (defScope s_Lane_is_whole) := ⟨rfl, rfl, rfl, by decide +kernel, rfl, by decide +kernel, by decide +kernel⟩
theorem b_Lane_is_whole {K : PySem.W.Frag} {f : Addr} {fd : FuncData} (F : FnP K "is_whole" "Lane.is_whole" s_Lane_is_whole f fd) : Binds K fd ["self"] [] := F.bindsN fun _ _ _ _ _ _ us hl => match us, hl with | [_], _ => rfl
theorem sc_Lane_twin : FnScope M_Lane_twin ["self"] (defScope s_Lane_twin) := ⟨rfl, rfl, rfl, by decide +kernel, rfl, by decide +kernel, by decide +kernel⟩
theorem b_Lane_twin {K : PySem.W.Frag} {f : Addr} {fd : FuncData} (F : FnP K "twin" "Lane.twin" s_Lane_twin f fd) : Binds K fd ["self"] [] := F.bindsN fun _ _ _ _ _ _ us hl => match us, hl with | [_], _ => rfl
theorem sc__law_bag : FnScope M__law_bag ["_law_script"] (defScope s__law_bag) := ⟨rfl, rfl, rfl, by decide +kernel, rfl, by decide +kernel, by decide +kernel⟩
theorem b__law_bag {K : PySem.W.Frag} {f : Addr} {fd : FuncData} (F : FnP K "_law_bag" "_law_bag" s__law_bag f fd) : Binds K fd ["_law_script"] [] := F.bindsN fun _ _ _ _ _ _ us hl => match us, hl with | [_], _ => rfl
theorem sc__law_take : FnScope M__law_take ["_law_bag_here", "_law_many"] (defScope s__law_take) := ⟨rfl, rfl, rfl, by decide +kernel, rfl, by decide +kernel, by decide +kernel⟩
theorem b__law_take {K : PySem.W.Frag} {f : Addr} {fd : FuncData} (F : FnP K "_law_take" "_law_take" s__law_take f fd) : Binds K fd ["_law_bag_here", "_law_many"] [] := F.bindsN fun _ _ _ _ _ _ us hl => match us, hl with | [_, _], _ => rfl
theorem sc__law_one : FnScope M__law_one ["_law_bag_here", "_law_some"] (defScope s__law_one) := ⟨rfl, rfl, rfl, by decide +kernel, rfl, by decide +kernel, by decide +kernel⟩
theorem b__law_one {K : PySem.W.Frag} {f : Addr} {fd : FuncData} (F : FnP K "_law_one" "_law_one" s__law_one f fd) : Binds K fd ["_law_bag_here", "_law_some"] [] := F.bindsN fun _ _ _ _ _ _ us hl => match us, hl with | [_, _], _ => rfl
theorem sc__law_mixed : FnScope M__law_mixed ["_law_bag_here", "_law_things"] (defScope s__law_mixed) := ⟨rfl, rfl, rfl, by decide +kernel, rfl, by decide +kernel, by decide +kernel⟩
theorem b__law_mixed {K : PySem.W.Frag} {f : Addr} {fd : FuncData} (F : FnP K "_law_mixed" "_law_mixed" s__law_mixed f fd) : Binds K fd ["_law_bag_here", "_law_things"] [] := F.bindsN fun _ _ _ _ _ _ us hl => match us, hl with | [_, _], _ => rfl
theorem sc__law_alphabet : FnScope M__law_alphabet ["_law_bag_here"] (defScope s__law_alphabet) := ⟨rfl, rfl, rfl, by decide +kernel, rfl, by decide +kernel, by decide +kernel⟩
theorem b__law_alphabet {K : PySem.W.Frag} {f : Addr} {fd : FuncData} (F : FnP K "_law_alphabet" "_law_alphabet" s__law_alphabet f fd) : Binds K fd ["_law_bag_here"] [] := F.bindsN fun _ _ _ _ _ _ us hl => match us, hl with | [_], _ => rfl
theorem sc__law_full : FnScope M__law_full ["_law_bag_here", "_law_letters", "_law_size"] (defScope s__law_full) := ⟨rfl, rfl, rfl, by decide +kernel, rfl, by decide +kernel, by decide +kernel⟩
theorem b__law_full {K : PySem.W.Frag} {f : Addr} {fd : FuncData} (F : FnP K "_law_full" "_law_full" s__law_full f fd) : Binds K fd ["_law_bag_here", "_law_letters", "_law_size"] [] := F.bindsN fun _ _ _ _ _ _ us hl => match us, hl with | [_, _, _], _ => rfl
theorem sc__law_alike : FnScope M__law_alike ["_law_found", "_law_due"] (defScope s__law_alike) := ⟨rfl, rfl, rfl, by decide +kernel, rfl, by decide +kernel, by decide +kernel⟩
theorem b__law_alike {K : PySem.W.Frag} {f : Addr} {fd : FuncData} (F : FnP K "_law_alike" "_law_alike" s__law_alike f fd) : Binds K fd ["_law_found", "_law_due"] [] := F.bindsN fun _ _ _ _ _ _ us hl => match us, hl with | [_, _], _ => rfl
theorem sc__law_gaps : FnScope M__law_gaps ["_law_known", "_law_length"] (defScope s__law_gaps) := ⟨rfl, rfl, rfl, by decide +kernel, rfl, by decide +kernel, by decide +kernel⟩
theorem b__law_gaps {K : PySem.W.Frag} {f : Addr} {fd : FuncData} (F : FnP K "_law_gaps" "_law_gaps" s__law_gaps f fd) : Binds K fd ["_law_known", "_law_length"] [] := F.bindsN fun _ _ _ _ _ _ us hl => match us, hl with | [_, _], _ => rfl
theorem sc__law_head : FnScope M__law_head ["_law_known"] (defScope s__law_head) := ⟨rfl, rfl, rfl, by decide +kernel, rfl, by decide +kernel, by decide +kernel⟩
theorem b__law_head {K : PySem.W.Frag} {f : Addr} {fd : FuncData} (F : FnP K "_law_head" "_law_head" s__law_head f fd) : Binds K fd ["_law_known"] [] := F.bindsN fun _ _ _ _ _ _ us hl => match us, hl with | [_], _ => rfl
theorem sc__law_right : FnScope M__law_right ["_law_lane", "_law_known", "_law_length"] (defScope s__law_right) := ⟨rfl, rfl, rfl, by decide +kernel, rfl, by decide +kernel, by decide +kernel⟩
theorem b__law_right {K : PySem.W.Frag} {f : Addr} {fd : FuncData} (F : FnP K "_law_right" "_law_right" s__law_right f fd) : Binds K fd ["_law_lane", "_law_known", "_law_length"] [] := F.bindsN fun _ _ _ _ _ _ us hl => match us, hl with | [_, _, _], _ => rfl
theorem sc__law_received : FnScope M__law_received ["_law_lane", "_law_place", "_law_piece_here"] (defScope s__law_received) := ⟨rfl, rfl, rfl, by decide +kernel, rfl, by decide +kernel, by decide +kernel⟩
theorem b__law_received {K : PySem.W.Frag} {f : Addr} {fd : FuncData} (F : FnP K "_law_received" "_law_received" s__law_received f fd) : Binds K fd ["_law_lane", "_law_place", "_law_piece_here"] [] := F.bindsN fun _ _ _ _ _ _ us hl => match us, hl with | [_, _, _], _ => rfl
theorem sc__law_closed : FnScope M__law_closed ["_law_lane", "_law_length"] (defScope s__law_closed) := ⟨rfl, rfl, rfl, by decide +kernel, rfl, by decide +kernel, by decide +kernel⟩
theorem b__law_closed {K : PySem.W.Frag} {f : Addr} {fd : FuncData} (F : FnP K "_law_closed" "_law_closed" s__law_closed f fd) : Binds K fd ["_law_lane", "_law_length"] [] := F.bindsN fun _ _ _ _ _ _ us hl => match us, hl with | [_, _], _ => rfl
theorem sc__law_piece_due : FnScope M__law_piece_due ["_law_known", "_law_length", "_law_place", "_law_piece_here"] (defScope s__law_piece_due) := ⟨rfl, rfl, rfl, by decide +kernel, rfl, by decide +kernel, by decide +kernel⟩
theorem b__law_piece_due {K : PySem.W.Frag} {f : Addr} {fd : FuncData} (F : FnP K "_law_piece_due" "_law_piece_due" s__law_piece_due f fd) : Binds K fd ["_law_known", "_law_length", "_law_place", "_law_piece_here"] [] := F.bindsN fun _ _ _ _ _ _ us hl => match us, hl with | [_, _, _, _], _ => rfl
theorem sc__law_length_due : FnScope M__law_length_due ["_law_known", "_law_length", "_law_end"] (defScope s__law_length_due) := ⟨rfl, rfl, rfl, by decide +kernel, rfl, by decide +kernel, by decide +kernel⟩
theorem b__law_length_due {K : PySem.W.Frag} {f : Addr} {fd : FuncData} (F : FnP K "_law_length_due" "_law_length_due" s__law_length_due f fd) : Binds K fd ["_law_known", "_law_length", "_law_end"] [] := F.bindsN fun _ _ _ _ _ _ us hl => match us, hl with | [_, _, _], _ => rfl
theorem sc__law_piece : FnScope M__law_piece ["_law_bag_here", "_law_letters", "_law_text", "_law_place"] (defScope s__law_piece) := ⟨rfl, rfl, rfl, by decide +kernel, rfl, by decide +kernel, by decide +kernel⟩
theorem b__law_piece {K : PySem.W.Frag} {f : Addr} {fd : FuncData} (F : FnP K "_law_piece" "_law_piece" s__law_piece f fd) : Binds K fd ["_law_bag_here", "_law_letters", "_law_text", "_law_place"] [] := F.bindsN fun _ _ _ _ _ _ us hl => match us, hl with | [_, _, _, _], _ => rfl
theorem sc__law_step : FnScope M__law_step ["_law_bag_here", "_law_row", "_law_letters"] (defScope s__law_step) := ⟨rfl, rfl, rfl, by decide +kernel, rfl, by decide +kernel, by decide +kernel⟩
theorem b__law_step {K : PySem.W.Frag} {f : Addr} {fd : FuncData} (F : FnP K "_law_step" "_law_step" s__law_step f fd) : Binds K fd ["_law_bag_here", "_law_row", "_law_letters"] [] := F.bindsN fun _ _ _ _ _ _ us hl => match us, hl with | [_, _, _], _ => rfl
theorem sc_law : FnScope M_law ["_law_script"] (defScope s_law) := ⟨rfl, rfl, rfl, by decide +kernel, rfl, by decide +kernel, by decide +kernel⟩
section
variable {P : Program} {w : World} {K : PySem.W.Frag} {mg : Str → Option Value} {base : Heap}
theorem der_runs_without (T : Fs P w K mg) {f : Addr} {cdv : Value} {A : Around} {outer : List Env} {s : Shared} {H : Hp} (hr : Room 0 (A.deeper (envOfC "runs_without" (defScope s_runs_without) s.heap.objs.size f cdv))) (hG : (A.deeper (envOfC "runs_without" (defScope s_runs_without) s.heap.objs.size f cdv)).guards = some []) :
    LSs (cxOf CX0 P w K mg base M_runs_without "runs_without" (defScope s_runs_without) f cdv A outer s H E0).nox (defBody s_runs_without) (t_runs_without T.ad) :=
    lss_cons (ls_par 2 3 rfl sc_runs_without.nd (la_cons (le_lst (la_nil)) (la_cons (le_non) (la_nil)))) <|
    lss_cons (ls_for PassesOwn.never rfl (lit_range1 rfl T.n_range (la_cons (le_var 1) (la_nil))) (lg_name 4 sc_runs_without.nd)
      (lss_one (ls_if (LWe.lt (lw_and (lt_cmp (lo_in (u65 hr)) (le_var 4) (le_var 0)) (lw_and1 (lt_cmp lo_notN (le_var 3) (le_non)))))
      (lss_cons (ls_expr (le_bm PySem.F.plainAttrs_list PySem.F.slot_list_append PySem.F.type_list_append mt_append lm_append (le_var 2) (la_cons (le_tup (la_cons (le_var 3) (la_cons (le_var 4) (la_nil)))) (la_nil)))) <|
    lss_one (ls_set 3 sc_runs_without.nd (le_non)))
      (lss_one (ls_if (LWe.lt (lw_and (lt_cmp (lo_nin (u65 hr)) (le_var 4) (le_var 0)) (lw_and1 (lt_cmp lo_isN (le_var 3) (le_non)))))
      (lss_one (ls_set 3 sc_runs_without.nd (le_var 4)))
      (lss_nil)))))) <|
    lss_one (ls_ret (le_if (lt_cmp lo_notN (le_var 3) (le_non)) (le_tup (la_star (le_var 2) (la_cons (le_tup (la_cons (le_var 3) (la_cons (le_var 1) (la_nil)))) (la_nil)))) (le_callTy lc_tuple rfl T.n_tuple boot_tuple (la_cons (le_var 2) (la_nil)))))
theorem der_Lane___init__ (T : Fs P w K mg) {f : Addr} {cdv : Value} {A : Around} {outer : List Env} {s : Shared} {H : Hp} (hr : Room 0 (A.deeper (envOfC "Lane.__init__" (defScope s_Lane___init__) s.heap.objs.size f cdv))) (hG : (A.deeper (envOfC "Lane.__init__" (defScope s_Lane___init__) s.heap.objs.size f cdv)).guards = some []) :
    LSs (cxOf CX0 P w K mg base M_Lane___init__ "Lane.__init__" (defScope s_Lane___init__) f cdv A outer s H E0).nox (defBody s_Lane___init__) (t_Lane___init__ T.ad) :=
    lss_one (ls_attr2 (slot1 T.sc_Lane T.s_Lane_its_letters) (slot1 T.sc_Lane T.s_Lane_its_length) (le_var 0) (le_var 0) (le_tup (la_cons (le_dnew) (la_cons (le_non) (la_nil)))) rfl)
theorem der_Lane___eq__ (T : Fs P w K mg) {f : Addr} {cdv : Value} {A : Around} {outer : List Env} {s : Shared} {H : Hp} (hr : Room 0 (A.deeper (envOfC "Lane.__eq__" (defScope s_Lane___eq__) s.heap.objs.size f cdv))) (hG : (A.deeper (envOfC "Lane.__eq__" (defScope s_Lane___eq__) s.heap.objs.size f cdv)).guards = some []) :
    LSs (cxOf CX0 P w K mg base M_Lane___eq__ "Lane.__eq__" (defScope s_Lane___eq__) f cdv A outer s H E0).nox (defBody s_Lane___eq__) (t_Lane___eq__ T.ad) :=
    lss_cons (ls_if (lt_not (lt_truth (le_callB (lc_isiC T.I_Lane) rfl T.n_isinstance boot_isinstance (la_cons (le_var 1) (la_cons (le_gref T.ad.a_Lane rfl T.g_Lane) (la_nil))))))
      (lss_one (ls_ret (le_bl)))
      (lss_nil)) <|
    lss_one (ls_ret (le_and (le_cmp (lo_eqX hr.units) (le_attr (slot1 T.sc_Lane T.s_Lane_its_letters) (le_var 0)) (le_attr (slot1 T.sc_Lane T.s_Lane_its_letters) (le_var 1))) (le_one (le_cmp (lo_eqX hr.units) (le_attr (slot1 T.sc_Lane T.s_Lane_its_length) (le_var 0)) (le_attr (slot1 T.sc_Lane T.s_Lane_its_length) (le_var 1))))))
theorem der_Lane_receive__X (T : Fs P w K mg) {f : Addr} {cdv : Value} {A : Around} {outer : List Env} {s : Shared} {H : Hp} {E : XK} {W : EW} (hr : Room 1 (A.deeper (envOfC "Lane.receive" (defScope s_Lane_receive__X) s.heap.objs.size f cdv))) (hG : (A.deeper (envOfC "Lane.receive" (defScope s_Lane_receive__X) s.heap.objs.size f cdv)).guards = some []) (tk : Takes (cxOf (CX P w) P w K mg base M_Lane_receive__X "Lane.receive" (defScope s_Lane_receive__X) f cdv A outer s H E) (upX K W)) :
    LSs (cxOf (CX P w) P w K mg base M_Lane_receive__X "Lane.receive" (defScope s_Lane_receive__X) f cdv A outer s H E) (defBody s_Lane_receive__X) (t_Lane_receive__X T.ad W) :=
    lss_cons (ls_for PassesOwn.leaving rfl (lit_enumS rfl T.n_enumerate (la_cons (le_var 2) (la_nil)) (le_var 1)) (lg_tup rfl (lgs_cons (lg_name 3 sc_Lane_receive__X.nd) (lgs_cons (lg_name 4 sc_Lane_receive__X.nd) (lgs_nil))))
      (lss_one (ls_if (lt_cmp (lo_ne hr.units) (le_get2 (u1 hr) (le_attr (slot1 T.sc_Lane T.s_Lane_its_letters) (le_var 0)) (le_var 3) (le_var 4)) (le_var 4))
      (lss_one (ls_raise T.x_Contradiction tk rfl (hr.mono (by decide)) rfl T.g_Contradiction (le_var 3)))
      (lss_nil)))) <|
    lss_cons (ls_if (LWe.lt (lw_and (lt_cmp lo_notN (le_attr (slot1 T.sc_Lane T.s_Lane_its_length) (le_var 0)) (le_non)) (lw_and (lt_cmp (lo_ne hr.units) (le_var 2) (le_tup (la_nil))) (lw_and1 (lt_cmp lo_gt (le_op lo_add (le_var 1) (le_callB lc_len rfl T.n_len boot_len (la_cons (le_var 2) (la_nil)))) (le_attr (slot1 T.sc_Lane T.s_Lane_its_length) (le_var 0)))))))
      (lss_one (ls_raise T.x_BeyondEnd tk rfl (hr.mono (by decide)) rfl T.g_BeyondEnd (le_callB (lc_max rfl) rfl T.n_max boot_max (la_cons (le_var 1) (la_cons (le_attr (slot1 T.sc_Lane T.s_Lane_its_length) (le_var 0)) (la_nil))))))
      (lss_nil)) <|
    lss_one (ls_for PassesOwn.leaving rfl (lit_enumS rfl T.n_enumerate (la_cons (le_var 2) (la_nil)) (le_var 1)) (lg_tup rfl (lgs_cons (lg_name 3 sc_Lane_receive__X.nd) (lgs_cons (lg_name 4 sc_Lane_receive__X.nd) (lgs_nil))))
      (lss_one (ls_setA (u1 hr) (le_var 4) (le_attr (slot1 T.sc_Lane T.s_Lane_its_letters) (le_var 0)) (le_var 3))))
theorem der_Lane_close__X (T : Fs P w K mg) {f : Addr} {cdv : Value} {A : Around} {outer : List Env} {s : Shared} {H : Hp} {E : XK} {W : EW} (hr : Room 1 (A.deeper (envOfC "Lane.close" (defScope s_Lane_close__X) s.heap.objs.size f cdv))) (hG : (A.deeper (envOfC "Lane.close" (defScope s_Lane_close__X) s.heap.objs.size f cdv)).guards = some []) (tk : Takes (cxOf (CX P w) P w K mg base M_Lane_close__X "Lane.close" (defScope s_Lane_close__X) f cdv A outer s H E) (upX K W)) :
    LSs (cxOf (CX P w) P w K mg base M_Lane_close__X "Lane.close" (defScope s_Lane_close__X) f cdv A outer s H E) (defBody s_Lane_close__X) (t_Lane_close__X T.ad W) :=
    lss_cons (ls_if (LWe.lt (lw_and (lt_cmp lo_notN (le_attr (slot1 T.sc_Lane T.s_Lane_its_length) (le_var 0)) (le_non)) (lw_and1 (lt_cmp (lo_ne hr.units) (le_attr (slot1 T.sc_Lane T.s_Lane_its_length) (le_var 0)) (le_var 1)))))
      (lss_one (ls_raise T.x_AlreadyEnded tk rfl (hr.mono (by decide)) rfl T.g_AlreadyEnded (le_attr (slot1 T.sc_Lane T.s_Lane_its_length) (le_var 0))))
      (lss_nil)) <|
    lss_cons (ls_lock (ls_setLc 2 [("place", 3)] rfl sc_Lane_close__X.nd (lit_keys (le_attr (slot1 T.sc_Lane T.s_Lane_its_letters) (le_var 0))) (blkOk_by (N := M_Lane_close__X) (sc := defScope s_Lane_close__X) (by decide +kernel)) (by decide) (fun _ _ _ _ _ => lg_name 3 sc_Lane_close__X.nd) (fun _ _ _ _ _ => lts_one (lt_cmp lo_ge (le_var 3) (le_var 1))) (fun _ _ _ _ _ => le_var 3))) <|
    lss_cons (ls_if (lt_cmp (lo_ne hr.units) (le_var 2) (le_lst (la_nil)))
      (lss_one (ls_raise T.x_EndsShort tk rfl (hr.mono (by decide)) rfl T.g_EndsShort (le_callB (lc_min rfl) rfl T.n_min boot_min (la_cons (le_var 2) (la_nil)))))
      (lss_nil)) <|
    lss_one (ls_attr (slot1 T.sc_Lane T.s_Lane_its_length) (le_var 0) (le_var 1))
theorem der_Lane_head (T : Fs P w K mg) {f : Addr} {cdv : Value} {A : Around} {outer : List Env} {s : Shared} {H : Hp} (hr : Room 0 (A.deeper (envOfC "Lane.head" (defScope s_Lane_head) s.heap.objs.size f cdv))) (hG : (A.deeper (envOfC "Lane.head" (defScope s_Lane_head) s.heap.objs.size f cdv)).guards = some []) :
    LSs (cxOf CX0 P w K mg base M_Lane_head "Lane.head" (defScope s_Lane_head) f cdv A outer s H E0).nox (defBody s_Lane_head) (t_Lane_head T.ad) :=
    lss_cons (ls_set 1 sc_Lane_head.nd (le_lst (la_nil))) <|
    lss_cons (ls_while PassesOwn.never (lt_cmp (lo_in (u65 hr)) (le_callB lc_len rfl T.n_len boot_len (la_cons (le_var 1) (la_nil))) (le_attr (slot1 T.sc_Lane T.s_Lane_its_letters) (le_var 0)))
      (lss_one (ls_expr (le_bm PySem.F.plainAttrs_list PySem.F.slot_list_append PySem.F.type_list_append mt_append lm_append (le_var 1) (la_cons (le_ix (lixA (u1 hr)) (le_attr (slot1 T.sc_Lane T.s_Lane_its_letters) (le_var 0)) (le_callB lc_len rfl T.n_len boot_len (la_cons (le_var 1) (la_nil)))) (la_nil)))))) <|
    lss_one (ls_ret (le_callTy lc_tuple rfl T.n_tuple boot_tuple (la_cons (le_var 1) (la_nil))))
theorem der_Lane_told_length (T : Fs P w K mg) {f : Addr} {cdv : Value} {A : Around} {outer : List Env} {s : Shared} {H : Hp} (hr : Room 0 (A.deeper (envOfC "Lane.told_length" (defScope s_Lane_told_length) s.heap.objs.size f cdv))) (hG : (A.deeper (envOfC "Lane.told_length" (defScope s_Lane_told_length) s.heap.objs.size f cdv)).guards = some []) :
    LSs (cxOf CX0 P w K mg base M_Lane_told_length "Lane.told_length" (defScope s_Lane_told_length) f cdv A outer s H E0).nox (defBody s_Lane_told_length) (t_Lane_told_length T.ad) :=
    lss_one (ls_ret (le_attr (slot1 T.sc_Lane T.s_Lane_its_length) (le_var 0)))
theorem der_Lane_known (T : Fs P w K mg) {f : Addr} {cdv : Value} {A : Around} {outer : List Env} {s : Shared} {H : Hp} (hr : Room 0 (A.deeper (envOfC "Lane.known" (defScope s_Lane_known) s.heap.objs.size f cdv))) (hG : (A.deeper (envOfC "Lane.known" (defScope s_Lane_known) s.heap.objs.size f cdv)).guards = some []) :
    LSs (cxOf CX0 P w K mg base M_Lane_known "Lane.known" (defScope s_Lane_known) f cdv A outer s H E0).nox (defBody s_Lane_known) (t_Lane_known T.ad) :=
    lss_one (ls_ret (le_dc [("place", 1)] rfl sc_Lane_known.nd (lit_any (le_callB (lc_sorted rfl) rfl T.n_sorted boot_sorted (la_cons (le_attr (slot1 T.sc_Lane T.s_Lane_its_letters) (le_var 0)) (la_nil)))) (blkOk_by (N := M_Lane_known) (sc := defScope s_Lane_known) (by decide +kernel)) (by decide) (fun _ _ _ _ _ => lg_name 1 sc_Lane_known.nd) (fun _ _ _ _ _ => lts_nil) (fun _ _ _ _ _ => le_var 1) (fun _ _ _ _ _ => le_ix (lixA (u1 hr)) (le_attr (slot1 T.sc_Lane T.s_Lane_its_letters) (le_var 0)) (le_var 1))))
theorem der_Lane_gaps (T : Fs P w K mg) (O_runs_without : FnG P w K mg base 1 T.f_runs_without T.d_runs_without ["letters", "end"] (sp_runs_without T.ad)) {f : Addr} {cdv : Value} {A : Around} {outer : List Env} {s : Shared} {H : Hp} (hr : Room 1 (A.deeper (envOfC "Lane.gaps" (defScope s_Lane_gaps) s.heap.objs.size f cdv))) (hG : (A.deeper (envOfC "Lane.gaps" (defScope s_Lane_gaps) s.heap.objs.size f cdv)).guards = some []) :
    LSs (cxOf CX0 P w K mg base M_Lane_gaps "Lane.gaps" (defScope s_Lane_gaps) f cdv A outer s H E0).nox (defBody s_Lane_gaps) (t_Lane_gaps T.ad) :=
    lss_cons (ls_set 1 sc_Lane_gaps.nd (le_callB (lc_max rfl) rfl T.n_max boot_max (la_cons (le_lst (la_cons (le_int) (la_star (le_lock (le_lc [("place", 2)] rfl sc_Lane_gaps.nd (lit_keys (le_attr (slot1 T.sc_Lane T.s_Lane_its_letters) (le_var 0))) (blkOk_by (N := M_Lane_gaps) (sc := defScope s_Lane_gaps) (by decide +kernel)) (by decide) (fun _ _ _ _ _ => lg_name 2 sc_Lane_gaps.nd) (fun _ _ _ _ _ => lts_nil) (fun _ _ _ _ _ => le_op lo_add (le_var 2) (le_int)))) (la_nil)))) (la_nil)))) <|
    lss_one (ls_ret (le_call O_runs_without (hr.mono (by decide)) hG rfl T.g_runs_without T.F_runs_without.kp (b_runs_without T.F_runs_without) (la_cons (le_attr (slot1 T.sc_Lane T.s_Lane_its_letters) (le_var 0)) (la_cons (le_if (lt_cmp lo_isN (le_attr (slot1 T.sc_Lane T.s_Lane_its_length) (le_var 0)) (le_non)) (le_var 1) (le_attr (slot1 T.sc_Lane T.s_Lane_its_length) (le_var 0))) (la_nil)))))
theorem der_Lane_is_whole (T : Fs P w K mg) {f : Addr} {cdv : Value} {A : Around} {outer : List Env} {s : Shared} {H : Hp} (hr : Room 0 (A.deeper (envOfC "Lane.is_whole" (defScope s_Lane_is_whole) s.heap.objs.size f cdv))) (hG : (A.deeper (envOfC "Lane.is_whole" (defScope s_Lane_is_whole) s.heap.objs.size f cdv)).guards = some []) :
    LSs (cxOf CX0 P w K mg base M_Lane_is_whole "Lane.is_whole" (defScope s_Lane_is_whole) f cdv A outer s H E0).nox (defBody s_Lane_is_whole) (t_Lane_is_whole T.ad) :=
    lss_one (ls_ret (le_and (le_cmp lo_notN (le_attr (slot1 T.sc_Lane T.s_Lane_its_length) (le_var 0)) (le_non)) (le_one (le_cmp (lo_eq hr.units) (le_callB lc_len rfl T.n_len boot_len (la_cons (le_attr (slot1 T.sc_Lane T.s_Lane_its_letters) (le_var 0)) (la_nil))) (le_attr (slot1 T.sc_Lane T.s_Lane_its_length) (le_var 0))))))
theorem der_Lane_twin (T : Fs P w K mg) (O_Lane___init__ : FnG P w K mg base 1 T.f_Lane___init__ T.d_Lane___init__ ["self"] (sp_Lane___init__ T.ad)) {f : Addr} {cdv : Value} {A : Around} {outer : List Env} {s : Shared} {H : Hp} (hr : Room 2 (A.deeper (envOfC "Lane.twin" (defScope s_Lane_twin) s.heap.objs.size f cdv))) (hG : (A.deeper (envOfC "Lane.twin" (defScope s_Lane_twin) s.heap.objs.size f cdv)).guards = some []) :
    LSs (cxOf CX0 P w K mg base M_Lane_twin "Lane.twin" (defScope s_Lane_twin) f cdv A outer s H E0).nox (defBody s_Lane_twin) (t_Lane_twin T.ad) :=
    lss_cons (ls_set 1 sc_Lane_twin.nd (le_make0 T.i_Lane T.k_Lane O_Lane___init__ (hr.mono (by decide)) hG rfl T.g_Lane (b_Lane___init__ T.F_Lane___init__))) <|
    lss_cons (ls_attr2 (slot1 T.sc_Lane T.s_Lane_its_letters) (slot1 T.sc_Lane T.s_Lane_its_length) (le_var 1) (le_var 1) (le_tup (la_cons (le_callTy lc_dict rfl T.n_dict boot_dict (la_cons (le_attr (slot1 T.sc_Lane T.s_Lane_its_letters) (le_var 0)) (la_nil))) (la_cons (le_attr (slot1 T.sc_Lane T.s_Lane_its_length) (le_var 0)) (la_nil)))) rfl) <|
    lss_one (ls_ret (le_var 1))
theorem der__law_bag (T : Fs P w K mg) {f : Addr} {cdv : Value} {A : Around} {outer : List Env} {s : Shared} {H : Hp} (hr : Room 0 (A.deeper (envOfC "_law_bag" (defScope s__law_bag) s.heap.objs.size f cdv))) (hG : (A.deeper (envOfC "_law_bag" (defScope s__law_bag) s.heap.objs.size f cdv)).guards = some []) :
    LSs (cxOf CX0 P w K mg base M__law_bag "_law_bag" (defScope s__law_bag) f cdv A outer s H E0).nox (defBody s__law_bag) (t__law_bag T.ad) :=
    lss_one (ls_ret (le_lst (la_cons (le_int) (la_cons (le_int) (la_cons (le_int) (la_cons (le_lc [("_law_cell", 1)] rfl sc__law_bag.nd (lit_any (le_slice (le_var 0) (lpo_none) (lpo_some (le_int)))) (blkOk_by (N := M__law_bag) (sc := defScope s__law_bag) (by decide +kernel)) (by decide) (fun _ _ _ _ _ => lg_name 1 sc__law_bag.nd) (fun _ _ _ _ _ => lts_nil) (fun _ _ _ _ _ => le_callB lc_abs rfl T.n_abs boot_abs (la_cons (le_var 1) (la_nil)))) (la_nil)))))))
theorem der__law_take (T : Fs P w K mg) {f : Addr} {cdv : Value} {A : Around} {outer : List Env} {s : Shared} {H : Hp} (hr : Room 0 (A.deeper (envOfC "_law_take" (defScope s__law_take) s.heap.objs.size f cdv))) (hG : (A.deeper (envOfC "_law_take" (defScope s__law_take) s.heap.objs.size f cdv)).guards = some []) :
    LSs (cxOf CX0 P w K mg base M__law_take "_law_take" (defScope s__law_take) f cdv A outer s H E0).nox (defBody s__law_take) (t__law_take T.ad) :=
    lss_cons (ls_if (lt_cmp (lo_eq hr.units) (le_ix (lixA (u1 hr)) (le_var 0) (le_int)) (le_int))
      (lss_cons (ls_set 2 sc__law_take.nd (le_ix (lixA (u1 hr)) (le_op lo_add (le_slice (le_ix (lixA (u1 hr)) (le_var 0) (le_int)) (lpo_some (le_ix (lixA (u1 hr)) (le_var 0) (le_int))) (lpo_none)) (le_lst (la_cons (le_int) (la_nil)))) (le_int))) <|
    lss_cons (ls_augS ip_add (le_var 0) (le_int) (le_int)) <|
    lss_cons (ls_setA (u1 hr) (le_op lo_mul (le_var 2) (le_callTy lc_int rfl T.n_int boot_int (la_cons (le_cmp lo_ge (le_var 2) (le_op lo_pow (le_int) (le_int))) (la_nil)))) (le_var 0) (le_int)) <|
    lss_cons (ls_set 3 sc__law_take.nd (le_op lo_add (le_op lo_add (le_op lo_mul (le_ix (lixA (u1 hr)) (le_var 0) (le_int)) (le_int)) (le_op lo_mod (le_callTy lc_int rfl T.n_int boot_int (la_cons (le_var 2) (la_nil))) (le_int))) (le_op lo_mul (le_int) (le_ix (lixA (u1 hr)) (le_var 0) (le_int))))) <|
    lss_one (ls_setA (u1 hr) (le_op lo_mod (le_callTy lc_int rfl T.n_int boot_int (la_cons (le_var 3) (la_nil))) (le_int)) (le_var 0) (le_int)))
      (lss_nil)) <|
    lss_cons (ls_if (lt_cmp lo_gt (le_ix (lixA (u1 hr)) (le_var 0) (le_int)) (le_int))
      (lss_cons (ls_set 4 sc__law_take.nd (le_op lo_mod (le_callTy lc_int rfl T.n_int boot_int (la_cons (le_ix (lixA (u1 hr)) (le_var 0) (le_int)) (la_nil))) (le_var 1))) <|
    lss_cons (ls_setA (u1 hr) (le_op lo_fdiv (le_callTy lc_int rfl T.n_int boot_int (la_cons (le_ix (lixA (u1 hr)) (le_var 0) (le_int)) (la_nil))) (le_var 1)) (le_var 0) (le_int)) <|
    lss_one (ls_ret (le_var 4)))
      (lss_nil)) <|
    lss_cons (ls_set 5 sc__law_take.nd (le_op lo_mod (le_callTy lc_int rfl T.n_int boot_int (la_cons (le_op lo_mul (le_op lo_add (le_ix (lixA (u1 hr)) (le_var 0) (le_int)) (le_int)) (le_int)) (la_nil))) (le_int))) <|
    lss_cons (ls_set 6 sc__law_take.nd (le_op lo_mod (le_callTy lc_int rfl T.n_int boot_int (la_cons (le_op lo_mul (le_op lo_mod (le_callTy lc_int rfl T.n_int boot_int (la_cons (le_op lo_mul (le_var 5) (le_var 5)) (la_nil))) (le_int)) (le_int)) (la_nil))) (le_int))) <|
    lss_one (ls_ret (le_op lo_mod (le_callTy lc_int rfl T.n_int boot_int (la_cons (le_op lo_fdiv (le_var 6) (le_int)) (la_nil))) (le_var 1)))
theorem der__law_one (T : Fs P w K mg) (O__law_take : FnG P w K mg base 1 T.f__law_take T.d__law_take ["_law_bag_here", "_law_many"] (sp__law_take T.ad)) {f : Addr} {cdv : Value} {A : Around} {outer : List Env} {s : Shared} {H : Hp} (hr : Room 1 (A.deeper (envOfC "_law_one" (defScope s__law_one) s.heap.objs.size f cdv))) (hG : (A.deeper (envOfC "_law_one" (defScope s__law_one) s.heap.objs.size f cdv)).guards = some []) :
    LSs (cxOf CX0 P w K mg base M__law_one "_law_one" (defScope s__law_one) f cdv A outer s H E0).nox (defBody s__law_one) (t__law_one T.ad) :=
    lss_one (ls_ret (le_ix (lixA (u1 hr)) (le_var 1) (le_call O__law_take (hr.mono (by decide)) hG rfl T.g__law_take T.F__law_take.kp (b__law_take T.F__law_take) (la_cons (le_var 0) (la_cons (le_callB lc_len rfl T.n_len boot_len (la_cons (le_var 1) (la_nil))) (la_nil))))))
theorem der__law_mixed (T : Fs P w K mg) (O__law_take : FnG P w K mg base 1 T.f__law_take T.d__law_take ["_law_bag_here", "_law_many"] (sp__law_take T.ad)) {f : Addr} {cdv : Value} {A : Around} {outer : List Env} {s : Shared} {H : Hp} (hr : Room 1 (A.deeper (envOfC "_law_mixed" (defScope s__law_mixed) s.heap.objs.size f cdv))) (hG : (A.deeper (envOfC "_law_mixed" (defScope s__law_mixed) s.heap.objs.size f cdv)).guards = some []) :
    LSs (cxOf CX0 P w K mg base M__law_mixed "_law_mixed" (defScope s__law_mixed) f cdv A outer s H E0).nox (defBody s__law_mixed) (t__law_mixed T.ad) :=
    lss_cons (ls_set 2 sc__law_mixed.nd (le_lst (la_nil))) <|
    lss_cons (ls_for PassesOwn.never rfl (lit_any (le_var 1)) (lg_name 3 sc__law_mixed.nd)
      (lss_one (ls_expr (le_bm PySem.F.plainAttrs_list PySem.F.slot_list_insert PySem.F.type_list_insert mt_insert lm_insert (le_var 2) (la_cons (le_call O__law_take (hr.mono (by decide)) hG rfl T.g__law_take T.F__law_take.kp (b__law_take T.F__law_take) (la_cons (le_var 0) (la_cons (le_op lo_add (le_callB lc_len rfl T.n_len boot_len (la_cons (le_var 2) (la_nil))) (le_int)) (la_nil)))) (la_cons (le_var 3) (la_nil))))))) <|
    lss_one (ls_ret (le_var 2))
theorem der__law_alphabet (T : Fs P w K mg) (O__law_mixed : FnG P w K mg base 2 T.f__law_mixed T.d__law_mixed ["_law_bag_here", "_law_things"] (sp__law_mixed T.ad)) (O__law_one : FnG P w K mg base 2 T.f__law_one T.d__law_one ["_law_bag_here", "_law_some"] (sp__law_one T.ad)) {f : Addr} {cdv : Value} {A : Around} {outer : List Env} {s : Shared} {H : Hp} (hr : Room 2 (A.deeper (envOfC "_law_alphabet" (defScope s__law_alphabet) s.heap.objs.size f cdv))) (hG : (A.deeper (envOfC "_law_alphabet" (defScope s__law_alphabet) s.heap.objs.size f cdv)).guards = some []) :
    LSs (cxOf CX0 P w K mg base M__law_alphabet "_law_alphabet" (defScope s__law_alphabet) f cdv A outer s H E0).nox (defBody s__law_alphabet) (t__law_alphabet T.ad) :=
    lss_one (ls_ret (le_slice (le_call O__law_mixed (hr.mono (by decide)) hG rfl T.g__law_mixed T.F__law_mixed.kp (b__law_mixed T.F__law_mixed) (la_cons (le_var 0) (la_cons (le_lst (la_cons (le_int) (la_cons (le_int) (la_cons (le_int) (la_cons (le_int) (la_cons (le_int) (la_cons (le_int) (la_cons (le_op lo_pow (le_int) (le_int)) (la_nil))))))))) (la_nil)))) (lpo_none) (lpo_some (le_call O__law_one (hr.mono (by decide)) hG rfl T.g__law_one T.F__law_one.kp (b__law_one T.F__law_one) (la_cons (le_var 0) (la_cons (le_lst (la_cons (le_int) (la_cons (le_int) (la_cons (le_int) (la_cons (le_int) (la_cons (le_int) (la_nil))))))) (la_nil)))))))
theorem der__law_full (T : Fs P w K mg) (O__law_one : FnG P w K mg base 2 T.f__law_one T.d__law_one ["_law_bag_here", "_law_some"] (sp__law_one T.ad)) {f : Addr} {cdv : Value} {A : Around} {outer : List Env} {s : Shared} {H : Hp} (hr : Room 2 (A.deeper (envOfC "_law_full" (defScope s__law_full) s.heap.objs.size f cdv))) (hG : (A.deeper (envOfC "_law_full" (defScope s__law_full) s.heap.objs.size f cdv)).guards = some []) :
    LSs (cxOf CX0 P w K mg base M__law_full "_law_full" (defScope s__law_full) f cdv A outer s H E0).nox (defBody s__law_full) (t__law_full T.ad) :=
    lss_one (ls_ret (le_callTy lc_tuple rfl T.n_tuple boot_tuple (la_cons (le_lc [("_law_k", 3)] rfl sc__law_full.nd (lit_range1 rfl T.n_range (la_cons (le_var 2) (la_nil))) (blkOk_by (N := M__law_full) (sc := defScope s__law_full) (by decide +kernel)) (by decide) (fun _ _ _ _ _ => lg_name 3 sc__law_full.nd) (fun _ _ _ _ _ => lts_nil) (fun _ _ _ _ _ => le_call O__law_one (hr.mono (by decide)) hG rfl T.g__law_one T.F__law_one.kp (b__law_one T.F__law_one) (la_cons (le_var 0) (la_cons (le_var 1) (la_nil))))) (la_nil))))
theorem der__law_alike (T : Fs P w K mg) {f : Addr} {cdv : Value} {A : Around} {outer : List Env} {s : Shared} {H : Hp} (hr : Room 0 (A.deeper (envOfC "_law_alike" (defScope s__law_alike) s.heap.objs.size f cdv))) (hG : (A.deeper (envOfC "_law_alike" (defScope s__law_alike) s.heap.objs.size f cdv)).guards = some []) :
    LSs (cxOf CX0 P w K mg base M__law_alike "_law_alike" (defScope s__law_alike) f cdv A outer s H E0).nox (defBody s__law_alike) (t__law_alikeX T.ad) :=
    lss_one (ls_ret (le_and (le_cmp (lo_eqX hr.units) (le_var 0) (le_var 1)) (le_one (le_cmp (lo_eqX hr.units) (le_callB (lc_reprX hG hr.units) rfl T.n_repr boot_repr (la_cons (le_var 0) (la_nil))) (le_callB (lc_reprX hG hr.units) rfl T.n_repr boot_repr (la_cons (le_var 1) (la_nil)))))))
theorem der__law_gaps (T : Fs P w K mg) {f : Addr} {cdv : Value} {A : Around} {outer : List Env} {s : Shared} {H : Hp} (hr : Room 0 (A.deeper (envOfC "_law_gaps" (defScope s__law_gaps) s.heap.objs.size f cdv))) (hG : (A.deeper (envOfC "_law_gaps" (defScope s__law_gaps) s.heap.objs.size f cdv)).guards = some []) :
    LSs (cxOf CX0 P w K mg base M__law_gaps "_law_gaps" (defScope s__law_gaps) f cdv A outer s H E0).nox (defBody s__law_gaps) (t__law_gaps T.ad) :=
    lss_cons (ls_set 2 sc__law_gaps.nd (le_callB (lc_max rfl) rfl T.n_max boot_max (la_cons (le_op lo_add (le_lock (le_lc [("_law_place", 5)] rfl sc__law_gaps.nd (lit_keys (le_var 0)) (blkOk_by (N := M__law_gaps) (sc := defScope s__law_gaps) (by decide +kernel)) (by decide) (fun _ _ _ _ _ => lg_name 5 sc__law_gaps.nd) (fun _ _ _ _ _ => lts_nil) (fun _ _ _ _ _ => le_op lo_add (le_var 5) (le_int)))) (le_lst (la_cons (le_orT (le_var 1) (le_one (le_int))) (la_nil)))) (la_nil)))) <|
    lss_cons (ls_par 3 4 rfl sc__law_gaps.nd (la_cons (le_lst (la_nil)) (la_cons (le_non) (la_nil)))) <|
    lss_cons (ls_for PassesOwn.never rfl (lit_range1 rfl T.n_range (la_cons (le_op lo_add (le_var 2) (le_int)) (la_nil))) (lg_name 5 sc__law_gaps.nd)
      (lss_cons (ls_set 6 sc__law_gaps.nd (le_andT (le_cmp lo_lt (le_var 5) (le_var 2)) (le_one (le_cmp (lo_nin (u65 hr)) (le_var 5) (le_var 0))))) <|
    lss_one (ls_if (LWe.lt (lw_and (lt_truth (le_var 6)) (lw_and1 (lt_cmp lo_isN (le_var 4) (le_non)))))
      (lss_one (ls_set 4 sc__law_gaps.nd (le_var 5)))
      (lss_one (ls_if (LWe.lt (lw_and (lt_not (lt_truth (le_var 6))) (lw_and1 (lt_cmp lo_notN (le_var 4) (le_non)))))
      (lss_cons (ls_expr (le_bm PySem.F.plainAttrs_list PySem.F.slot_list_append PySem.F.type_list_append mt_append lm_append (le_var 3) (la_cons (le_tup (la_cons (le_var 4) (la_cons (le_var 5) (la_nil)))) (la_nil)))) <|
    lss_one (ls_set 4 sc__law_gaps.nd (le_non)))
      (lss_nil)))))) <|
    lss_one (ls_ret (le_callTy lc_tuple rfl T.n_tuple boot_tuple (la_cons (le_var 3) (la_nil))))
theorem der__law_head (T : Fs P w K mg) {f : Addr} {cdv : Value} {A : Around} {outer : List Env} {s : Shared} {H : Hp} (hr : Room 0 (A.deeper (envOfC "_law_head" (defScope s__law_head) s.heap.objs.size f cdv))) (hG : (A.deeper (envOfC "_law_head" (defScope s__law_head) s.heap.objs.size f cdv)).guards = some []) :
    LSs (cxOf CX0 P w K mg base M__law_head "_law_head" (defScope s__law_head) f cdv A outer s H E0).nox (defBody s__law_head) (t__law_head T.ad) :=
    lss_cons (ls_set 1 sc__law_head.nd (le_lst (la_nil))) <|
    lss_cons (ls_for PassesOwn.never rfl (lit_range1 rfl T.n_range (la_cons (le_callB lc_len rfl T.n_len boot_len (la_cons (le_var 0) (la_nil))) (la_nil))) (lg_name 2 sc__law_head.nd)
      (lss_cons (ls_if (lt_cmp (lo_nin (u65 hr)) (le_var 2) (le_var 0))
      (lss_one (ls_ret (le_callTy lc_tuple rfl T.n_tuple boot_tuple (la_cons (le_var 1) (la_nil)))))
      (lss_nil)) <|
    lss_one (ls_expr (le_bm PySem.F.plainAttrs_list PySem.F.slot_list_append PySem.F.type_list_append mt_append lm_append (le_var 1) (la_cons (le_ix (lixA (u1 hr)) (le_var 0) (le_var 2)) (la_nil)))))) <|
    lss_one (ls_ret (le_callTy lc_tuple rfl T.n_tuple boot_tuple (la_cons (le_var 1) (la_nil))))
theorem der__law_right (T : Fs P w K mg) (O_Lane_known : FnG P w K mg base 1 T.f_Lane_known T.d_Lane_known ["self"] (sp_Lane_known T.ad)) (O__law_alike : FnG P w K mg base 1 T.f__law_alike T.d__law_alike ["_law_found", "_law_due"] (sp__law_alikeX T.ad)) (O__law_head : FnG P w K mg base 1 T.f__law_head T.d__law_head ["_law_known"] (sp__law_head T.ad)) (O_Lane_is_whole : FnG P w K mg base 1 T.f_Lane_is_whole T.d_Lane_is_whole ["self"] (sp_Lane_is_whole T.ad)) (O_Lane_head : FnG P w K mg base 1 T.f_Lane_head T.d_Lane_head ["self"] (sp_Lane_head T.ad)) (O_Lane_told_length : FnG P w K mg base 1 T.f_Lane_told_length T.d_Lane_told_length ["self"] (sp_Lane_told_length T.ad)) (O_Lane_gaps : FnG P w K mg base 2 T.f_Lane_gaps T.d_Lane_gaps ["self"] (sp_Lane_gaps T.ad)) (O__law_gaps : FnG P w K mg base 1 T.f__law_gaps T.d__law_gaps ["_law_known", "_law_length"] (sp__law_gaps T.ad)) {f : Addr} {cdv : Value} {A : Around} {outer : List Env} {s : Shared} {H : Hp} (hr : Room 2 (A.deeper (envOfC "_law_right" (defScope s__law_right) s.heap.objs.size f cdv))) (hG : (A.deeper (envOfC "_law_right" (defScope s__law_right) s.heap.objs.size f cdv)).guards = some []) :
    LSs (cxOf CX0 P w K mg base M__law_right "_law_right" (defScope s__law_right) f cdv A outer s H E0).nox (defBody s__law_right) (t__law_right T.ad) :=
    lss_cons (ls_set 3 sc__law_right.nd (le_callTy (lc_dictP rfl) rfl T.n_dict boot_dict (la_cons (le_lc [("_law_place", 6)] rfl sc__law_right.nd (lit_any (le_callB (lc_sorted rfl) rfl T.n_sorted boot_sorted (la_cons (le_var 1) (la_nil)))) (blkOk_by (N := M__law_right) (sc := defScope s__law_right) (by decide +kernel)) (by decide) (fun _ _ _ _ _ => lg_name 6 sc__law_right.nd) (fun _ _ _ _ _ => lts_nil) (fun _ _ _ _ _ => le_tup (la_cons (le_var 6) (la_cons (le_ix (lixA (u1 hr)) (le_var 1) (le_var 6)) (la_nil))))) (la_nil)))) <|
    lss_cons (ls_par 4 5 rfl sc__law_right.nd (la_cons (le_call O__law_head (hr.mono (by decide)) hG rfl T.g__law_head T.F__law_head.kp (b__law_head T.F__law_head) (la_cons (le_var 1) (la_nil))) (la_cons (le_met0 (met1 T.sc_Lane T.m_Lane_known O_Lane_known (hr.mono (by decide)) (b_Lane_known T.F_Lane_known)) hG (le_var 0)) (la_nil)))) <|
    lss_cons (ls_if (lt_not (lt_truth (le_call O__law_alike (hr.mono (by decide)) hG rfl T.g__law_alike T.F__law_alike.kp (b__law_alike T.F__law_alike) (la_cons (le_lst (la_cons (le_met0 (met1 T.sc_Lane T.m_Lane_head O_Lane_head (hr.mono (by decide)) (b_Lane_head T.F_Lane_head)) hG (le_var 0)) (la_cons (le_met0 (met1 T.sc_Lane T.m_Lane_told_length O_Lane_told_length (hr.mono (by decide)) (b_Lane_told_length T.F_Lane_told_length)) hG (le_var 0)) (la_cons (le_var 5) (la_cons (le_met0 (met1 T.sc_Lane T.m_Lane_gaps O_Lane_gaps (hr.mono (by decide)) (b_Lane_gaps T.F_Lane_gaps)) hG (le_var 0)) (la_nil)))))) (la_cons (le_lst (la_cons (le_var 4) (la_cons (le_var 2) (la_cons (le_var 3) (la_cons (le_call O__law_gaps (hr.mono (by decide)) hG rfl T.g__law_gaps T.F__law_gaps.kp (b__law_gaps T.F__law_gaps) (la_cons (le_var 1) (la_cons (le_var 2) (la_nil)))) (la_nil)))))) (la_nil))))))
      (lss_one (ls_ret (le_bl)))
      (lss_nil)) <|
    lss_cons (ls_setA (u1 hr) (le_int) (le_var 5) (le_int)) <|
    lss_cons (ls_setA (u1 hr) (le_int) (le_var 5) (le_int)) <|
    lss_cons (ls_if (lt_not (lt_truth (le_call O__law_alike (hr.mono (by decide)) hG rfl T.g__law_alike T.F__law_alike.kp (b__law_alike T.F__law_alike) (la_cons (le_met0 (met1 T.sc_Lane T.m_Lane_is_whole O_Lane_is_whole (hr.mono (by decide)) (b_Lane_is_whole T.F_Lane_is_whole)) hG (le_var 0)) (la_cons (le_and (le_cmp lo_notN (le_var 2) (le_non)) (le_one (le_cmp (lo_eq hr.units) (le_callB lc_len rfl T.n_len boot_len (la_cons (le_var 4) (la_nil))) (le_var 2)))) (la_nil))))))
      (lss_one (ls_ret (le_bl)))
      (lss_nil)) <|
    lss_cons (ls_expr (le_bm0 PySem.F.plainAttrs_dict PySem.F.slot_dict_clear PySem.F.type_dict_clear mtd_clear lm_clearD (le_met0 (met1 T.sc_Lane T.m_Lane_known O_Lane_known (hr.mono (by decide)) (b_Lane_known T.F_Lane_known)) hG (le_var 0)))) <|
    lss_one (ls_ret (le_call O__law_alike (hr.mono (by decide)) hG rfl T.g__law_alike T.F__law_alike.kp (b__law_alike T.F__law_alike) (la_cons (le_met0 (met1 T.sc_Lane T.m_Lane_known O_Lane_known (hr.mono (by decide)) (b_Lane_known T.F_Lane_known)) hG (le_var 0)) (la_cons (le_var 3) (la_nil)))))
theorem der__law_received (T : Fs P w K mg) (O_Lane_receive__X : FnX P w K mg base 2 T.f_Lane_receive__X T.d_Lane_receive__X ["self", "place", "text"] (sp_Lane_receive__X T.ad)) {f : Addr} {cdv : Value} {A : Around} {outer : List Env} {s : Shared} {H : Hp} (hr : Room 2 (A.deeper (envOfC "_law_received" (defScope s__law_received) s.heap.objs.size f cdv))) (hG : (A.deeper (envOfC "_law_received" (defScope s__law_received) s.heap.objs.size f cdv)).guards = some []) :
    LSs (cxOf CX0 P w K mg base M__law_received "_law_received" (defScope s__law_received) f cdv A outer s H E0).nox (defBody s__law_received) (t__law_received T.ad) :=
    lss_cons (ls_try rfl rfl sc__law_received.nd (fun W pn xe tk po =>
      lss_one (ls_set 3 sc__law_received.nd (le_metX (met1X T.sc_Lane T.m_Lane_receive__X O_Lane_receive__X (hr.mono (by decide)) (b_Lane_receive__X T.F_Lane_receive__X)) tk hG (le_var 0) (la_cons (le_var 1) (la_cons (le_var 2) (la_nil)))))) (.cons (i := 4) ⟨rfl, by decide, .inl T.g_Contradiction⟩ rfl rfl (fun _ _ _ _ _ hz hf => suite_tup T.x_Contradiction (by decide +kernel) rfl rfl (by decide) (by decide) hz hf rfl rfl rfl) (.cons (i := 4) ⟨rfl, by decide, .inl T.g_BeyondEnd⟩ rfl rfl (fun _ _ _ _ _ hz hf => suite_tup T.x_BeyondEnd (by decide +kernel) rfl rfl (by decide) (by decide) hz hf rfl rfl rfl) (.nil))) ⟨T.e_Contradiction_Contradiction, ⟨T.e_BeyondEnd_Contradiction, trivial⟩, ⟨T.e_BeyondEnd_BeyondEnd, trivial, trivial⟩⟩) <|
    lss_one (ls_ret (le_tup (la_cons (le_str [114, 101, 116, 117, 114, 110, 101, 100]) (la_cons (le_var 3) (la_nil)))))
theorem der__law_closed (T : Fs P w K mg) (O_Lane_close__X : FnX P w K mg base 2 T.f_Lane_close__X T.d_Lane_close__X ["self", "length"] (sp_Lane_close__X T.ad)) {f : Addr} {cdv : Value} {A : Around} {outer : List Env} {s : Shared} {H : Hp} (hr : Room 2 (A.deeper (envOfC "_law_closed" (defScope s__law_closed) s.heap.objs.size f cdv))) (hG : (A.deeper (envOfC "_law_closed" (defScope s__law_closed) s.heap.objs.size f cdv)).guards = some []) :
    LSs (cxOf CX0 P w K mg base M__law_closed "_law_closed" (defScope s__law_closed) f cdv A outer s H E0).nox (defBody s__law_closed) (t__law_closed T.ad) :=
    lss_cons (ls_try rfl rfl sc__law_closed.nd (fun W pn xe tk po =>
      lss_one (ls_set 2 sc__law_closed.nd (le_metX (met1X T.sc_Lane T.m_Lane_close__X O_Lane_close__X (hr.mono (by decide)) (b_Lane_close__X T.F_Lane_close__X)) tk hG (le_var 0) (la_cons (le_var 1) (la_nil))))) (.cons (i := 3) ⟨rfl, by decide, .inl T.g_AlreadyEnded⟩ rfl rfl (fun _ _ _ _ _ hz hf => suite_tup T.x_AlreadyEnded (by decide +kernel) rfl rfl (by decide) (by decide) hz hf rfl rfl rfl) (.cons (i := 3) ⟨rfl, by decide, .inl T.g_EndsShort⟩ rfl rfl (fun _ _ _ _ _ hz hf => suite_tup T.x_EndsShort (by decide +kernel) rfl rfl (by decide) (by decide) hz hf rfl rfl rfl) (.nil))) ⟨T.e_AlreadyEnded_AlreadyEnded, ⟨T.e_EndsShort_AlreadyEnded, trivial⟩, ⟨T.e_EndsShort_EndsShort, trivial, trivial⟩⟩) <|
    lss_one (ls_ret (le_tup (la_cons (le_str [114, 101, 116, 117, 114, 110, 101, 100]) (la_cons (le_var 2) (la_nil)))))
theorem der__law_piece_due (T : Fs P w K mg) {f : Addr} {cdv : Value} {A : Around} {outer : List Env} {s : Shared} {H : Hp} (hr : Room 0 (A.deeper (envOfC "_law_piece_due" (defScope s__law_piece_due) s.heap.objs.size f cdv))) (hG : (A.deeper (envOfC "_law_piece_due" (defScope s__law_piece_due) s.heap.objs.size f cdv)).guards = some []) :
    LSs (cxOf CX0 P w K mg base M__law_piece_due "_law_piece_due" (defScope s__law_piece_due) f cdv A outer s H E0).nox (defBody s__law_piece_due) (t__law_piece_due T.ad) :=
    lss_cons (ls_setLc 4 [("_law_at", 7)] rfl sc__law_piece_due.nd (lit_range1 rfl T.n_range (la_cons (le_callB lc_len rfl T.n_len boot_len (la_cons (le_var 3) (la_nil))) (la_nil))) (blkOk_by (N := M__law_piece_due) (sc := defScope s__law_piece_due) (by decide +kernel)) (by decide) (fun _ _ _ _ _ => lg_name 7 sc__law_piece_due.nd) (fun _ _ _ _ _ => lts_nil) (fun _ _ _ _ _ => le_op lo_add (le_var 2) (le_var 7))) <|
    lss_cons (ls_setLc 5 [("_law_spot", 8)] rfl sc__law_piece_due.nd (lit_any (le_var 4)) (blkOk_by (N := M__law_piece_due) (sc := defScope s__law_piece_due) (by decide +kernel)) (by decide) (fun _ _ _ _ _ => lg_name 8 sc__law_piece_due.nd) (fun _ _ _ _ _ => lts_one (LWe.lt (lw_and (lt_cmp (lo_in (u65 hr)) (le_var 8) (le_var 0)) (lw_and1 (lt_cmp (lo_ne hr.units) (le_ix (lixA (u1 hr)) (le_var 0) (le_var 8)) (le_ix (lixA (u1 hr)) (le_var 3) (le_op lo_sub (le_var 8) (le_var 2)))))))) (fun _ _ _ _ _ => le_var 8)) <|
    lss_cons (ls_setLc 6 [("_law_spot", 8)] rfl sc__law_piece_due.nd (lit_any (le_var 4)) (blkOk_by (N := M__law_piece_due) (sc := defScope s__law_piece_due) (by decide +kernel)) (by decide) (fun _ _ _ _ _ => lg_name 8 sc__law_piece_due.nd) (fun _ _ _ _ _ => lts_one (LWe.lt (lw_and (lt_cmp lo_notN (le_var 1) (le_non)) (lw_and1 (lt_cmp lo_ge (le_var 8) (le_var 1)))))) (fun _ _ _ _ _ => le_var 8)) <|
    lss_cons (ls_if (lt_cmp (lo_ne hr.units) (le_var 5) (le_lst (la_nil)))
      (lss_one (ls_ret (le_tup (la_cons (le_str [67, 111, 110, 116, 114, 97, 100, 105, 99, 116, 105, 111, 110]) (la_cons (le_ix (lixA (u1 hr)) (le_var 5) (le_int)) (la_nil))))))
      (lss_nil)) <|
    lss_one (ls_ret (le_if (lt_cmp (lo_ne hr.units) (le_var 6) (le_lst (la_nil))) (le_tup (la_cons (le_str [66, 101, 121, 111, 110, 100, 69, 110, 100]) (la_cons (le_ix (lixA (u1 hr)) (le_var 6) (le_int)) (la_nil)))) (le_tup (la_cons (le_str [114, 101, 116, 117, 114, 110, 101, 100]) (la_cons (le_non) (la_nil))))))
theorem der__law_length_due (T : Fs P w K mg) {f : Addr} {cdv : Value} {A : Around} {outer : List Env} {s : Shared} {H : Hp} (hr : Room 0 (A.deeper (envOfC "_law_length_due" (defScope s__law_length_due) s.heap.objs.size f cdv))) (hG : (A.deeper (envOfC "_law_length_due" (defScope s__law_length_due) s.heap.objs.size f cdv)).guards = some []) :
    LSs (cxOf CX0 P w K mg base M__law_length_due "_law_length_due" (defScope s__law_length_due) f cdv A outer s H E0).nox (defBody s__law_length_due) (t__law_length_due T.ad) :=
    lss_cons (ls_if (LWe.lt (lw_and (lt_cmp lo_notN (le_var 1) (le_non)) (lw_and1 (lt_cmp (lo_ne hr.units) (le_var 1) (le_var 2)))))
      (lss_one (ls_ret (le_tup (la_cons (le_str [65, 108, 114, 101, 97, 100, 121, 69, 110, 100, 101, 100]) (la_cons (le_var 1) (la_nil))))))
      (lss_nil)) <|
    lss_cons (ls_setLc 3 [("_law_place", 4)] rfl sc__law_length_due.nd (lit_any (le_callB (lc_sorted rfl) rfl T.n_sorted boot_sorted (la_cons (le_var 0) (la_nil)))) (blkOk_by (N := M__law_length_due) (sc := defScope s__law_length_due) (by decide +kernel)) (by decide) (fun _ _ _ _ _ => lg_name 4 sc__law_length_due.nd) (fun _ _ _ _ _ => lts_one (lt_cmp lo_ge (le_var 4) (le_var 2))) (fun _ _ _ _ _ => le_var 4)) <|
    lss_one (ls_ret (le_if (lt_cmp (lo_ne hr.units) (le_var 3) (le_lst (la_nil))) (le_tup (la_cons (le_str [69, 110, 100, 115, 83, 104, 111, 114, 116]) (la_cons (le_ix (lixA (u1 hr)) (le_var 3) (le_int)) (la_nil)))) (le_tup (la_cons (le_str [114, 101, 116, 117, 114, 110, 101, 100]) (la_cons (le_non) (la_nil))))))
theorem der__law_piece (T : Fs P w K mg) (O__law_take : FnG P w K mg base 1 T.f__law_take T.d__law_take ["_law_bag_here", "_law_many"] (sp__law_take T.ad)) (O__law_one : FnG P w K mg base 2 T.f__law_one T.d__law_one ["_law_bag_here", "_law_some"] (sp__law_one T.ad)) {f : Addr} {cdv : Value} {A : Around} {outer : List Env} {s : Shared} {H : Hp} (hr : Room 2 (A.deeper (envOfC "_law_piece" (defScope s__law_piece) s.heap.objs.size f cdv))) (hG : (A.deeper (envOfC "_law_piece" (defScope s__law_piece) s.heap.objs.size f cdv)).guards = some []) :
    LSs (cxOf CX0 P w K mg base M__law_piece "_law_piece" (defScope s__law_piece) f cdv A outer s H E0).nox (defBody s__law_piece) (t__law_piece T.ad) :=
    lss_cons (ls_set 4 sc__law_piece.nd (le_slice (le_var 2) (lpo_some (le_var 3)) (lpo_some (le_op lo_add (le_var 3) (le_call O__law_one (hr.mono (by decide)) hG rfl T.g__law_one T.F__law_one.kp (b__law_one T.F__law_one) (la_cons (le_var 0) (la_cons (le_lst (la_cons (le_int) (la_cons (le_int) (la_cons (le_int) (la_cons (le_int) (la_cons (le_int) (la_nil))))))) (la_nil)))))))) <|
    lss_cons (ls_for PassesOwn.never rfl (lit_range1 rfl T.n_range (la_cons (le_if (lt_cmp (lo_ne hr.units) (le_var 4) (le_tup (la_nil))) (le_call O__law_one (hr.mono (by decide)) hG rfl T.g__law_one T.F__law_one.kp (b__law_one T.F__law_one) (la_cons (le_var 0) (la_cons (le_lst (la_cons (le_int) (la_cons (le_int) (la_cons (le_int) (la_cons (le_int) (la_cons (le_int) (la_nil))))))) (la_nil)))) (le_int)) (la_nil))) (lg_name 5 sc__law_piece.nd)
      (lss_cons (ls_set 6 sc__law_piece.nd (le_call O__law_take (hr.mono (by decide)) hG rfl T.g__law_take T.F__law_take.kp (b__law_take T.F__law_take) (la_cons (le_var 0) (la_cons (le_callB lc_len rfl T.n_len boot_len (la_cons (le_var 4) (la_nil))) (la_nil))))) <|
    lss_one (ls_set 4 sc__law_piece.nd (le_op lo_add (le_op lo_add (le_slice (le_var 4) (lpo_none) (lpo_some (le_var 6))) (le_tup (la_cons (le_call O__law_one (hr.mono (by decide)) hG rfl T.g__law_one T.F__law_one.kp (b__law_one T.F__law_one) (la_cons (le_var 0) (la_cons (le_var 1) (la_nil)))) (la_nil)))) (le_slice (le_var 4) (lpo_some (le_op lo_add (le_var 6) (le_int))) (lpo_none)))))) <|
    lss_one (ls_ret (le_var 4))
theorem der__law_step (T : Fs P w K mg) (O__law_take : FnG P w K mg base 1 T.f__law_take T.d__law_take ["_law_bag_here", "_law_many"] (sp__law_take T.ad)) (O__law_piece : FnG P w K mg base 3 T.f__law_piece T.d__law_piece ["_law_bag_here", "_law_letters", "_law_text", "_law_place"] (sp__law_piece T.ad)) (O__law_piece_due : FnG P w K mg base 1 T.f__law_piece_due T.d__law_piece_due ["_law_known", "_law_length", "_law_place", "_law_piece_here"] (sp__law_piece_due T.ad)) (O__law_alike : FnG P w K mg base 1 T.f__law_alike T.d__law_alike ["_law_found", "_law_due"] (sp__law_alikeX T.ad)) (O__law_one : FnG P w K mg base 2 T.f__law_one T.d__law_one ["_law_bag_here", "_law_some"] (sp__law_one T.ad)) (O__law_length_due : FnG P w K mg base 1 T.f__law_length_due T.d__law_length_due ["_law_known", "_law_length", "_law_end"] (sp__law_length_due T.ad)) (O__law_received : FnG P w K mg base 3 T.f__law_received T.d__law_received ["_law_lane", "_law_place", "_law_piece_here"] (sp__law_received T.ad)) (O__law_closed : FnG P w K mg base 3 T.f__law_closed T.d__law_closed ["_law_lane", "_law_length"] (sp__law_closed T.ad)) {f : Addr} {cdv : Value} {A : Around} {outer : List Env} {s : Shared} {H : Hp} (hr : Room 3 (A.deeper (envOfC "_law_step" (defScope s__law_step) s.heap.objs.size f cdv))) (hG : (A.deeper (envOfC "_law_step" (defScope s__law_step) s.heap.objs.size f cdv)).guards = some []) :
    LSs (cxOf CX0 P w K mg base M__law_step "_law_step" (defScope s__law_step) f cdv A outer s H E0).nox (defBody s__law_step) (t__law_step_k14 T.ad) :=
    lss_cons (ls_asg (le_var 1) (lg_tup rfl (lgs_cons (lg_name 3 sc__law_step.nd) (lgs_cons (lg_name 4 sc__law_step.nd) (lgs_cons (lg_name 5 sc__law_step.nd) (lgs_cons (lg_name 6 sc__law_step.nd) (lgs_nil))))))) <|
    lss_cons (ls_if (lt_cmp (lo_eq hr.units) (le_call O__law_take (hr.mono (by decide)) hG rfl T.g__law_take T.F__law_take.kp (b__law_take T.F__law_take) (la_cons (le_var 0) (la_cons (le_int) (la_nil)))) (le_int))
      (lss_cons (ls_set 7 sc__law_step.nd (le_call O__law_one (hr.mono (by decide)) hG rfl T.g__law_one T.F__law_one.kp (b__law_one T.F__law_one) (la_cons (le_var 0) (la_cons (le_lst (la_cons (le_callB lc_len rfl T.n_len boot_len (la_cons (le_var 5) (la_nil))) (la_cons (le_call O__law_take (hr.mono (by decide)) hG rfl T.g__law_take T.F__law_take.kp (b__law_take T.F__law_take) (la_cons (le_var 0) (la_cons (le_int) (la_nil)))) (la_cons (le_orT (le_var 6) (le_one (le_int))) (la_nil))))) (la_nil))))) <|
    lss_cons (ls_set 8 sc__law_step.nd (le_call O__law_length_due (hr.mono (by decide)) hG rfl T.g__law_length_due T.F__law_length_due.kp (b__law_length_due T.F__law_length_due) (la_cons (le_var 5) (la_cons (le_var 6) (la_cons (le_var 7) (la_nil)))))) <|
    lss_cons (ls_if (lt_cmp (lo_eq hr.units) (le_ix (lixA (u1 hr)) (le_var 8) (le_int)) (le_str [114, 101, 116, 117, 114, 110, 101, 100]))
      (lss_one (ls_setA (u1 hr) (le_var 7) (le_var 1) (le_int)))
      (lss_nil)) <|
    lss_one (ls_ret (le_call O__law_alike (hr.mono (by decide)) hG rfl T.g__law_alike T.F__law_alike.kp (b__law_alike T.F__law_alike) (la_cons (le_call O__law_closed (hr.mono (by decide)) hG rfl T.g__law_closed T.F__law_closed.kp (b__law_closed T.F__law_closed) (la_cons (le_var 3) (la_cons (le_var 7) (la_nil)))) (la_cons (le_var 8) (la_nil))))))
      (lss_nil)) <|
    lss_cons (ls_set 9 sc__law_step.nd (le_call O__law_take (hr.mono (by decide)) hG rfl T.g__law_take T.F__law_take.kp (b__law_take T.F__law_take) (la_cons (le_var 0) (la_cons (le_int) (la_nil))))) <|
    lss_cons (ls_set 10 sc__law_step.nd (le_call O__law_piece (hr.mono (by decide)) hG rfl T.g__law_piece T.F__law_piece.kp (b__law_piece T.F__law_piece) (la_cons (le_var 0) (la_cons (le_var 2) (la_cons (le_var 4) (la_cons (le_var 9) (la_nil))))))) <|
    lss_cons (ls_set 8 sc__law_step.nd (le_call O__law_piece_due (hr.mono (by decide)) hG rfl T.g__law_piece_due T.F__law_piece_due.kp (b__law_piece_due T.F__law_piece_due) (la_cons (le_var 5) (la_cons (le_var 6) (la_cons (le_var 9) (la_cons (le_var 10) (la_nil))))))) <|
    lss_cons (ls_if (lt_cmp (lo_eq hr.units) (le_ix (lixA (u1 hr)) (le_var 8) (le_int)) (le_str [114, 101, 116, 117, 114, 110, 101, 100]))
      (lss_one (ls_for PassesOwn.never rfl (lit_range1 rfl T.n_range (la_cons (le_callB lc_len rfl T.n_len boot_len (la_cons (le_var 10) (la_nil))) (la_nil))) (lg_name 11 sc__law_step.nd)
      (lss_one (ls_setA (u1 hr) (le_ix (lixA (u1 hr)) (le_var 10) (le_var 11)) (le_var 5) (le_op lo_add (le_var 9) (le_var 11))))))
      (lss_nil)) <|
    lss_one (ls_ret (le_call O__law_alike (hr.mono (by decide)) hG rfl T.g__law_alike T.F__law_alike.kp (b__law_alike T.F__law_alike) (la_cons (le_call O__law_received (hr.mono (by decide)) hG rfl T.g__law_received T.F__law_received.kp (b__law_received T.F__law_received) (la_cons (le_var 3) (la_cons (le_var 9) (la_cons (le_var 10) (la_nil))))) (la_cons (le_var 8) (la_nil)))))
theorem der_law (T : Fs P w K mg) (O_Lane___eq__ : FnG P w K mg base 1 T.f_Lane___eq__ T.d_Lane___eq__ ["self", "other"] (sp_Lane___eq__ T.ad)) (O__law_bag : FnG P w K mg base 1 T.f__law_bag T.d__law_bag ["_law_script"] (sp__law_bag T.ad)) (O_Lane_twin : FnG P w K mg base 3 T.f_Lane_twin T.d_Lane_twin ["self"] (sp_Lane_twin T.ad)) (O__law_alphabet : FnG P w K mg base 3 T.f__law_alphabet T.d__law_alphabet ["_law_bag_here"] (sp__law_alphabet T.ad)) (O_Lane___init__ : FnG P w K mg base 1 T.f_Lane___init__ T.d_Lane___init__ ["self"] (sp_Lane___init__ T.ad)) (O__law_full : FnG P w K mg base 3 T.f__law_full T.d__law_full ["_law_bag_here", "_law_letters", "_law_size"] (sp__law_full T.ad)) (O__law_right : FnG P w K mg base 3 T.f__law_right T.d__law_right ["_law_lane", "_law_known", "_law_length"] (sp__law_right T.ad)) (O__law_step : FnG P w K mg base 4 T.f__law_step T.d__law_step ["_law_bag_here", "_law_row", "_law_letters"] (sp__law_step_k14 T.ad)) (O__law_alike : FnG P w K mg base 1 T.f__law_alike T.d__law_alike ["_law_found", "_law_due"] (sp__law_alikeX T.ad)) (O__law_take : FnG P w K mg base 1 T.f__law_take T.d__law_take ["_law_bag_here", "_law_many"] (sp__law_take T.ad)) {f : Addr} {cdv : Value} {A : Around} {outer : List Env} {s : Shared} {H : Hp} (hr : Room 4 (A.deeper (envOfC "law" (defScope s_law) s.heap.objs.size f cdv))) (hG : (A.deeper (envOfC "law" (defScope s_law) s.heap.objs.size f cdv)).guards = some []) :
    LSs (cxOf CX0 P w K mg base M_law "law" (defScope s_law) f cdv A outer s H E0).nox (defBody s_law) (t_law_k14 T.ad) :=
    lss_cons (ls_set 1 sc_law.nd (le_call O__law_bag (hr.mono (by decide)) hG rfl T.g__law_bag T.F__law_bag.kp (b__law_bag T.F__law_bag) (la_cons (le_var 0) (la_nil)))) <|
    lss_cons (ls_for PassesOwn.never rfl (lit_range1 rfl T.n_range (la_cons (le_int) (la_nil))) (lg_name 2 sc_law.nd)
      (lss_cons (ls_set 3 sc_law.nd (le_op lo_add (le_call O__law_alphabet (hr.mono (by decide)) hG rfl T.g__law_alphabet T.F__law_alphabet.kp (b__law_alphabet T.F__law_alphabet) (la_cons (le_var 1) (la_nil))) (le_lst (la_cons (le_int) (la_nil))))) <|
    lss_cons (ls_set 4 sc_law.nd (le_lst (la_cons (le_make0 T.i_Lane T.k_Lane O_Lane___init__ (hr.mono (by decide)) hG rfl T.g_Lane (b_Lane___init__ T.F_Lane___init__)) (la_cons (le_call O__law_full (hr.mono (by decide)) hG rfl T.g__law_full T.F__law_full.kp (b__law_full T.F__law_full) (la_cons (le_var 1) (la_cons (le_var 3) (la_cons (le_int) (la_nil))))) (la_cons (le_dnew) (la_cons (le_non) (la_nil))))))) <|
    lss_cons (ls_for PassesOwn.never rfl (lit_range1 rfl T.n_range (la_cons (le_int) (la_nil))) (lg_name 5 sc_law.nd)
      (lss_cons (ls_if (lt_not (lt_truth (le_call O__law_step (hr.mono (by decide)) hG rfl T.g__law_step T.F__law_step.kp (b__law_step T.F__law_step) (la_cons (le_var 1) (la_cons (le_var 4) (la_cons (le_var 3) (la_nil)))))))
      (lss_one (ls_ret (le_bl)))
      (lss_nil)) <|
    lss_one (ls_if (LWe.lt (lw_and (lt_cmp (lo_eq hr.units) (le_call O__law_take (hr.mono (by decide)) hG rfl T.g__law_take T.F__law_take.kp (b__law_take T.F__law_take) (la_cons (le_var 1) (la_cons (le_int) (la_nil)))) (le_int)) (lw_and1 (lt_not (lt_truth (le_call O__law_right (hr.mono (by decide)) hG rfl T.g__law_right T.F__law_right.kp (b__law_right T.F__law_right) (la_cons (le_ix (lixA (u1 hr)) (le_var 4) (le_int)) (la_cons (le_ix (lixA (u1 hr)) (le_var 4) (le_int)) (la_cons (le_ix (lixA (u1 hr)) (le_var 4) (le_int)) (la_nil))))))))))
      (lss_one (ls_ret (le_bl)))
      (lss_nil)))) <|
    lss_cons (ls_set 6 sc_law.nd (le_met0 (met1 T.sc_Lane T.m_Lane_twin O_Lane_twin (hr.mono (by decide)) (b_Lane_twin T.F_Lane_twin)) hG (le_ix (lixA (u1 hr)) (le_var 4) (le_int)))) <|
    lss_cons (ls_if (LWe.lt (lw_or (lt_not (lt_truth (le_call O__law_alike (hr.mono (by decide)) hG rfl T.g__law_alike T.F__law_alike.kp (b__law_alike T.F__law_alike) (la_cons (le_lst (la_cons (le_cmp (lo_eqO T.q_Lane T.m_Lane___eq__ O_Lane___eq__ (hr.mono (by decide)) hG (b_Lane___eq__ T.F_Lane___eq__) (lo_eq hr.units)) (le_var 6) (le_ix (lixA (u1 hr)) (le_var 4) (le_int))) (la_cons (le_cmp (lo_eqO T.q_Lane T.m_Lane___eq__ O_Lane___eq__ (hr.mono (by decide)) hG (b_Lane___eq__ T.F_Lane___eq__) (lo_eq hr.units)) (le_ix (lixA (u1 hr)) (le_var 4) (le_int)) (le_var 6)) (la_nil)))) (la_cons (le_lst (la_cons (le_bl) (la_cons (le_bl) (la_nil)))) (la_nil)))))) (lw_or1 (lt_not (lt_truth (le_call O__law_right (hr.mono (by decide)) hG rfl T.g__law_right T.F__law_right.kp (b__law_right T.F__law_right) (la_cons (le_var 6) (la_cons (le_ix (lixA (u1 hr)) (le_var 4) (le_int)) (la_cons (le_ix (lixA (u1 hr)) (le_var 4) (le_int)) (la_nil))))))))))
      (lss_one (ls_ret (le_bl)))
      (lss_nil)) <|
    lss_one (ls_if (lt_not (lt_truth (le_call O__law_right (hr.mono (by decide)) hG rfl T.g__law_right T.F__law_right.kp (b__law_right T.F__law_right) (la_cons (le_ix (lixA (u1 hr)) (le_var 4) (le_int)) (la_cons (le_ix (lixA (u1 hr)) (le_var 4) (le_int)) (la_cons (le_ix (lixA (u1 hr)) (le_var 4) (le_int)) (la_nil)))))))
      (lss_one (ls_ret (le_bl)))
      (lss_nil)))) <|
    lss_one (ls_ret (le_bl))
end
section
variable {P : Program} {w : World} {K : PySem.W.Frag} {mg : Str → Option Value} {base : Heap}
theorem ok_runs_without (T : Fs P w K mg) : FnG P w K mg base 1 T.f_runs_without T.d_runs_without ["letters", "end"] (sp_runs_without T.ad) :=
  fnG_of T.F_runs_without sc_runs_without (len_runs_without T.ad) fun cdv A outer s H hr hG => ⟨_, der_runs_without T hr hG, pure_runs_without T.ad⟩
theorem ok_Lane___init__ (T : Fs P w K mg) : FnG P w K mg base 1 T.f_Lane___init__ T.d_Lane___init__ ["self"] (sp_Lane___init__ T.ad) :=
  fnG_of T.F_Lane___init__ sc_Lane___init__ (len_Lane___init__ T.ad) fun cdv A outer s H hr hG => ⟨_, der_Lane___init__ T hr hG, pure_Lane___init__ T.ad⟩
theorem ok_Lane___eq__ (T : Fs P w K mg) : FnG P w K mg base 1 T.f_Lane___eq__ T.d_Lane___eq__ ["self", "other"] (sp_Lane___eq__ T.ad) :=
  fnG_of T.F_Lane___eq__ sc_Lane___eq__ (len_Lane___eq__ T.ad) fun cdv A outer s H hr hG => ⟨_, der_Lane___eq__ T hr hG, pure_Lane___eq__ T.ad⟩
theorem ok_Lane_receive__X (T : Fs P w K mg) : FnX P w K mg base 2 T.f_Lane_receive__X T.d_Lane_receive__X ["self", "place", "text"] (sp_Lane_receive__X T.ad) :=
  fnX_of T.F_Lane_receive__X sc_Lane_receive__X (len_Lane_receive__X T.ad) (fun cdv A outer s H E W hr hG tk => der_Lane_receive__X T hr hG tk) (pure_Lane_receive__X T.ad)
theorem ok_Lane_close__X (T : Fs P w K mg) : FnX P w K mg base 2 T.f_Lane_close__X T.d_Lane_close__X ["self", "length"] (sp_Lane_close__X T.ad) :=
  fnX_of T.F_Lane_close__X sc_Lane_close__X (len_Lane_close__X T.ad) (fun cdv A outer s H E W hr hG tk => der_Lane_close__X T hr hG tk) (pure_Lane_close__X T.ad)
theorem ok_Lane_head (T : Fs P w K mg) : FnG P w K mg base 1 T.f_Lane_head T.d_Lane_head ["self"] (sp_Lane_head T.ad) :=
  fnG_of T.F_Lane_head sc_Lane_head (len_Lane_head T.ad) fun cdv A outer s H hr hG => ⟨_, der_Lane_head T hr hG, pure_Lane_head T.ad⟩
theorem ok_Lane_told_length (T : Fs P w K mg) : FnG P w K mg base 1 T.f_Lane_told_length T.d_Lane_told_length ["self"] (sp_Lane_told_length T.ad) :=
  fnG_of T.F_Lane_told_length sc_Lane_told_length (len_Lane_told_length T.ad) fun cdv A outer s H hr hG => ⟨_, der_Lane_told_length T hr hG, pure_Lane_told_length T.ad⟩
theorem ok_Lane_known (T : Fs P w K mg) : FnG P w K mg base 1 T.f_Lane_known T.d_Lane_known ["self"] (sp_Lane_known T.ad) :=
  fnG_of T.F_Lane_known sc_Lane_known (len_Lane_known T.ad) fun cdv A outer s H hr hG => ⟨_, der_Lane_known T hr hG, pure_Lane_known T.ad⟩
theorem ok_Lane_gaps (T : Fs P w K mg) : FnG P w K mg base 2 T.f_Lane_gaps T.d_Lane_gaps ["self"] (sp_Lane_gaps T.ad) :=
  fnG_of T.F_Lane_gaps sc_Lane_gaps (len_Lane_gaps T.ad) fun cdv A outer s H hr hG => ⟨_, der_Lane_gaps T (ok_runs_without T) hr hG, pure_Lane_gaps T.ad⟩
theorem ok_Lane_is_whole (T : Fs P w K mg) : FnG P w K mg base 1 T.f_Lane_is_whole T.d_Lane_is_whole ["self"] (sp_Lane_is_whole T.ad) :=
  fnG_of T.F_Lane_is_whole sc_Lane_is_whole (len_Lane_is_whole T.ad) fun cdv A outer s H hr hG => ⟨_, der_Lane_is_whole T hr hG, pure_Lane_is_whole T.ad⟩
theorem ok_Lane_twin (T : Fs P w K mg) : FnG P w K mg base 3 T.f_Lane_twin T.d_Lane_twin ["self"] (sp_Lane_twin T.ad) :=
  fnG_of T.F_Lane_twin sc_Lane_twin (len_Lane_twin T.ad) fun cdv A outer s H hr hG => ⟨_, der_Lane_twin T (ok_Lane___init__ T) hr hG, pure_Lane_twin T.ad⟩
theorem ok__law_bag (T : Fs P w K mg) : FnG P w K mg base 1 T.f__law_bag T.d__law_bag ["_law_script"] (sp__law_bag T.ad) :=
  fnG_of T.F__law_bag sc__law_bag (len__law_bag T.ad) fun cdv A outer s H hr hG => ⟨_, der__law_bag T hr hG, pure__law_bag T.ad⟩
theorem ok__law_take (T : Fs P w K mg) : FnG P w K mg base 1 T.f__law_take T.d__law_take ["_law_bag_here", "_law_many"] (sp__law_take T.ad) :=
  fnG_of T.F__law_take sc__law_take (len__law_take T.ad) fun cdv A outer s H hr hG => ⟨_, der__law_take T hr hG, pure__law_take T.ad⟩
theorem ok__law_one (T : Fs P w K mg) : FnG P w K mg base 2 T.f__law_one T.d__law_one ["_law_bag_here", "_law_some"] (sp__law_one T.ad) :=
  fnG_of T.F__law_one sc__law_one (len__law_one T.ad) fun cdv A outer s H hr hG => ⟨_, der__law_one T (ok__law_take T) hr hG, pure__law_one T.ad⟩
theorem ok__law_mixed (T : Fs P w K mg) : FnG P w K mg base 2 T.f__law_mixed T.d__law_mixed ["_law_bag_here", "_law_things"] (sp__law_mixed T.ad) :=
  fnG_of T.F__law_mixed sc__law_mixed (len__law_mixed T.ad) fun cdv A outer s H hr hG => ⟨_, der__law_mixed T (ok__law_take T) hr hG, pure__law_mixed T.ad⟩
theorem ok__law_alphabet (T : Fs P w K mg) : FnG P w K mg base 3 T.f__law_alphabet T.d__law_alphabet ["_law_bag_here"] (sp__law_alphabet T.ad) :=
  fnG_of T.F__law_alphabet sc__law_alphabet (len__law_alphabet T.ad) fun cdv A outer s H hr hG => ⟨_, der__law_alphabet T (ok__law_mixed T) (ok__law_one T) hr hG, pure__law_alphabet T.ad⟩
theorem ok__law_full (T : Fs P w K mg) : FnG P w K mg base 3 T.f__law_full T.d__law_full ["_law_bag_here", "_law_letters", "_law_size"] (sp__law_full T.ad) :=
  fnG_of T.F__law_full sc__law_full (len__law_full T.ad) fun cdv A outer s H hr hG => ⟨_, der__law_full T (ok__law_one T) hr hG, pure__law_full T.ad⟩
theorem ok__law_alike (T : Fs P w K mg) : FnG P w K mg base 1 T.f__law_alike T.d__law_alike ["_law_found", "_law_due"] (sp__law_alikeX T.ad) :=
  fnG_of T.F__law_alike sc__law_alike (len__law_alikeX T.ad) fun cdv A outer s H hr hG => ⟨_, der__law_alike T hr hG, pure__law_alikeX T.ad⟩
theorem ok__law_gaps (T : Fs P w K mg) : FnG P w K mg base 1 T.f__law_gaps T.d__law_gaps ["_law_known", "_law_length"] (sp__law_gaps T.ad) :=
  fnG_of T.F__law_gaps sc__law_gaps (len__law_gaps T.ad) fun cdv A outer s H hr hG => ⟨_, der__law_gaps T hr hG, pure__law_gaps T.ad⟩
theorem ok__law_head (T : Fs P w K mg) : FnG P w K mg base 1 T.f__law_head T.d__law_head ["_law_known"] (sp__law_head T.ad) :=
  fnG_of T.F__law_head sc__law_head (len__law_head T.ad) fun cdv A outer s H hr hG => ⟨_, der__law_head T hr hG, pure__law_head T.ad⟩
theorem ok__law_right (T : Fs P w K mg) : FnG P w K mg base 3 T.f__law_right T.d__law_right ["_law_lane", "_law_known", "_law_length"] (sp__law_right T.ad) :=
  fnG_of T.F__law_right sc__law_right (len__law_right T.ad) fun cdv A outer s H hr hG => ⟨_, der__law_right T (ok_Lane_known T) (ok__law_alike T) (ok__law_head T) (ok_Lane_is_whole T) (ok_Lane_head T) (ok_Lane_told_length T) (ok_Lane_gaps T) (ok__law_gaps T) hr hG, pure__law_right T.ad⟩
theorem ok__law_received (T : Fs P w K mg) : FnG P w K mg base 3 T.f__law_received T.d__law_received ["_law_lane", "_law_place", "_law_piece_here"] (sp__law_received T.ad) :=
  fnG_of T.F__law_received sc__law_received (len__law_received T.ad) fun cdv A outer s H hr hG => ⟨_, der__law_received T (ok_Lane_receive__X T) hr hG, pure__law_received T.ad⟩
theorem ok__law_closed (T : Fs P w K mg) : FnG P w K mg base 3 T.f__law_closed T.d__law_closed ["_law_lane", "_law_length"] (sp__law_closed T.ad) :=
  fnG_of T.F__law_closed sc__law_closed (len__law_closed T.ad) fun cdv A outer s H hr hG => ⟨_, der__law_closed T (ok_Lane_close__X T) hr hG, pure__law_closed T.ad⟩
theorem ok__law_piece_due (T : Fs P w K mg) : FnG P w K mg base 1 T.f__law_piece_due T.d__law_piece_due ["_law_known", "_law_length", "_law_place", "_law_piece_here"] (sp__law_piece_due T.ad) :=
  fnG_of T.F__law_piece_due sc__law_piece_due (len__law_piece_due T.ad) fun cdv A outer s H hr hG => ⟨_, der__law_piece_due T hr hG, pure__law_piece_due T.ad⟩
theorem ok__law_length_due (T : Fs P w K mg) : FnG P w K mg base 1 T.f__law_length_due T.d__law_length_due ["_law_known", "_law_length", "_law_end"] (sp__law_length_due T.ad) :=
  fnG_of T.F__law_length_due sc__law_length_due (len__law_length_due T.ad) fun cdv A outer s H hr hG => ⟨_, der__law_length_due T hr hG, pure__law_length_due T.ad⟩
theorem ok__law_piece (T : Fs P w K mg) : FnG P w K mg base 3 T.f__law_piece T.d__law_piece ["_law_bag_here", "_law_letters", "_law_text", "_law_place"] (sp__law_piece T.ad) :=
  fnG_of T.F__law_piece sc__law_piece (len__law_piece T.ad) fun cdv A outer s H hr hG => ⟨_, der__law_piece T (ok__law_take T) (ok__law_one T) hr hG, pure__law_piece T.ad⟩
theorem ok__law_step (T : Fs P w K mg) : FnG P w K mg base 4 T.f__law_step T.d__law_step ["_law_bag_here", "_law_row", "_law_letters"] (sp__law_step_k14 T.ad) :=
  fnG_of T.F__law_step sc__law_step (len__law_step_k14 T.ad) fun cdv A outer s H hr hG => ⟨_, der__law_step T (ok__law_take T) (ok__law_piece T) (ok__law_piece_due T) (ok__law_alike T) (ok__law_one T) (ok__law_length_due T) (ok__law_received T) (ok__law_closed T) hr hG, pure__law_step_k14 T.ad⟩
theorem ok_law (T : Fs P w K mg) : FnG P w K mg base 5 T.f_law T.d_law ["_law_script"] (spTop 63) :=
  fnG_of T.F_law sc_law (fun evs h Q ⟨ns, e, _⟩ => by rw [e]; rfl) fun cdv A outer s H hr hG => ⟨_, der_law T (ok_Lane___eq__ T) (ok__law_bag T) (ok_Lane_twin T) (ok__law_alphabet T) (ok_Lane___init__ T) (ok__law_full T) (ok__law_right T) (ok__law_step T) (ok__law_alike T) (ok__law_take T) hr hG, pure_law_k14 T.ad⟩
end
def dD_runs_without : He.DefD := ⟨("runs_without", none), "runs_without", "runs_without", defArgs s_runs_without, defBody s_runs_without, defScope s_runs_without, [], []⟩
def dD_Lane___init__ : He.DefD := ⟨("Lane", some "__init__"), "__init__", "Lane.__init__", defArgs s_Lane___init__, defBody s_Lane___init__, defScope s_Lane___init__, [], []⟩
def dD_Lane___eq__ : He.DefD := ⟨("Lane", some "__eq__"), "__eq__", "Lane.__eq__", defArgs s_Lane___eq__, defBody s_Lane___eq__, defScope s_Lane___eq__, [], []⟩
def dD_Lane_receive__X : He.DefD := ⟨("Lane", some "receive"), "receive", "Lane.receive", defArgs s_Lane_receive__X, defBody s_Lane_receive__X, defScope s_Lane_receive__X, [], []⟩
def dD_Lane_close__X : He.DefD := ⟨("Lane", some "close"), "close", "Lane.close", defArgs s_Lane_close__X, defBody s_Lane_close__X, defScope s_Lane_close__X, [], []⟩
def dD_Lane_head : He.DefD := ⟨("Lane", some "head"), "head", "Lane.head", defArgs s_Lane_head, defBody s_Lane_head, defScope s_Lane_head, [], []⟩
def dD_Lane_told_length : He.DefD := ⟨("Lane", some "told_length"), "told_length", "Lane.told_length", defArgs s_Lane_told_length, defBody s_Lane_told_length, defScope s_Lane_told_length, [], []⟩
def dD_Lane_known : He.DefD := ⟨("Lane", some "known"), "known", "Lane.known", defArgs s_Lane_known, defBody s_Lane_known, defScope s_Lane_known, [], []⟩
def dD_Lane_gaps : He.DefD := ⟨("Lane", some "gaps"), "gaps", "Lane.gaps", defArgs s_Lane_gaps, defBody s_Lane_gaps, defScope s_Lane_gaps, [], []⟩
def dD_Lane_is_whole : He.DefD := ⟨("Lane", some "is_whole"), "is_whole", "Lane.is_whole", defArgs s_Lane_is_whole, defBody s_Lane_is_whole, defScope s_Lane_is_whole, [], []⟩
def dD_Lane_twin : He.DefD := ⟨("Lane", some "twin"), "twin", "Lane.twin", defArgs s_Lane_twin, defBody s_Lane_twin, defScope s_Lane_twin, [], []⟩
def dD__law_bag : He.DefD := ⟨("_law_bag", none), "_law_bag", "_law_bag", defArgs s__law_bag, defBody s__law_bag, defScope s__law_bag, [], []⟩
def dD__law_take : He.DefD := ⟨("_law_take", none), "_law_take", "_law_take", defArgs s__law_take, defBody s__law_take, defScope s__law_take, [], []⟩
def dD__law_one : He.DefD := ⟨("_law_one", none), "_law_one", "_law_one", defArgs s__law_one, defBody s__law_one, defScope s__law_one, [], []⟩
def dD__law_mixed : He.DefD := ⟨("_law_mixed", none), "_law_mixed", "_law_mixed", defArgs s__law_mixed, defBody s__law_mixed, defScope s__law_mixed, [], []⟩
def dD__law_alphabet : He.DefD := ⟨("_law_alphabet", none), "_law_alphabet", "_law_alphabet", defArgs s__law_alphabet, defBody s__law_alphabet, defScope s__law_alphabet, [], []⟩
def dD__law_full : He.DefD := ⟨("_law_full", none), "_law_full", "_law_full", defArgs s__law_full, defBody s__law_full, defScope s__law_full, [], []⟩
def dD__law_alike : He.DefD := ⟨("_law_alike", none), "_law_alike", "_law_alike", defArgs s__law_alike, defBody s__law_alike, defScope s__law_alike, [], []⟩
def dD__law_gaps : He.DefD := ⟨("_law_gaps", none), "_law_gaps", "_law_gaps", defArgs s__law_gaps, defBody s__law_gaps, defScope s__law_gaps, [], []⟩
def dD__law_head : He.DefD := ⟨("_law_head", none), "_law_head", "_law_head", defArgs s__law_head, defBody s__law_head, defScope s__law_head, [], []⟩
def dD__law_right : He.DefD := ⟨("_law_right", none), "_law_right", "_law_right", defArgs s__law_right, defBody s__law_right, defScope s__law_right, [], []⟩
def dD__law_received : He.DefD := ⟨("_law_received", none), "_law_received", "_law_received", defArgs s__law_received, defBody s__law_received, defScope s__law_received, [], []⟩
def dD__law_closed : He.DefD := ⟨("_law_closed", none), "_law_closed", "_law_closed", defArgs s__law_closed, defBody s__law_closed, defScope s__law_closed, [], []⟩
def dD__law_piece_due : He.DefD := ⟨("_law_piece_due", none), "_law_piece_due", "_law_piece_due", defArgs s__law_piece_due, defBody s__law_piece_due, defScope s__law_piece_due, [], []⟩
def dD__law_length_due : He.DefD := ⟨("_law_length_due", none), "_law_length_due", "_law_length_due", defArgs s__law_length_due, defBody s__law_length_due, defScope s__law_length_due, [], []⟩
def dD__law_piece : He.DefD := ⟨("_law_piece", none), "_law_piece", "_law_piece", defArgs s__law_piece, defBody s__law_piece, defScope s__law_piece, [], []⟩
def dD__law_step : He.DefD := ⟨("_law_step", none), "_law_step", "_law_step", defArgs s__law_step, defBody s__law_step, defScope s__law_step, [], []⟩
def dD_law : He.DefD := ⟨("law", none), "law", "law", defArgs s_law, defBody s_law, defScope s_law, [], []⟩
def fn : List He.DefD := [dD_runs_without, dD_Lane___init__, dD_Lane___eq__, dD_Lane_receive__X, dD_Lane_close__X, dD_Lane_head, dD_Lane_told_length, dD_Lane_known, dD_Lane_gaps, dD_Lane_is_whole, dD_Lane_twin, dD__law_bag, dD__law_take, dD__law_one, dD__law_mixed, dD__law_alphabet, dD__law_full, dD__law_alike, dD__law_gaps, dD__law_head, dD__law_right, dD__law_received, dD__law_closed, dD__law_piece_due, dD__law_length_due, dD__law_piece, dD__law_step, dD_law]
def fa : List He.Fa := [.glo "runs_without", .mkr "Lane", .meth "Lane" "__eq__", .meth "Lane" "receive", .meth "Lane" "close", .meth "Lane" "head", .meth "Lane" "told_length", .meth "Lane" "known", .meth "Lane" "gaps", .meth "Lane" "is_whole", .meth "Lane" "twin", .glo "_law_bag", .glo "_law_take", .glo "_law_one", .glo "_law_mixed", .glo "_law_alphabet", .glo "_law_full", .glo "_law_alike", .glo "_law_gaps", .glo "_law_head", .glo "_law_right", .glo "_law_received", .glo "_law_closed", .glo "_law_piece_due", .glo "_law_length_due", .glo "_law_piece", .glo "_law_step", .glo "law", .glo "Lane", .glo "AlreadyEnded", .glo "BeyondEnd", .glo "Contradiction", .glo "EndsShort", .free "abs", .free "dict", .free "enumerate", .free "int", .free "isinstance", .free "len", .free "max", .free "min", .free "range", .free "repr", .free "sorted", .free "tuple"]
def ts : List He.Tab := []
def exB : PySem.W.Frag → Bool := fun K => sclsB K (He.ga K "Lane") && slotB K (He.ga K "Lane") "its_length" 0 && slotB K (He.ga K "Lane") "its_letters" 1 && isiOkB K (He.ga K "Lane") && isiCB K (He.ga K "Lane") [(He.ga K "Lane", true)] && eqCB K (He.ga K "Lane") [He.ga K "Lane"] && excB PySem.Challenge.rw_saidearly_k14_lanes_refuse.prog K (He.ga K "AlreadyEnded") "length" "length" && excB PySem.Challenge.rw_saidearly_k14_lanes_refuse.prog K (He.ga K "BeyondEnd") "place" "place" && excB PySem.Challenge.rw_saidearly_k14_lanes_refuse.prog K (He.ga K "Contradiction") "place" "place" && excB PySem.Challenge.rw_saidearly_k14_lanes_refuse.prog K (He.ga K "EndsShort") "place" "place" && exmB K (He.ga K "AlreadyEnded") (He.ga K "AlreadyEnded") true && exmB K (He.ga K "BeyondEnd") (He.ga K "BeyondEnd") true && exmB K (He.ga K "BeyondEnd") (He.ga K "Contradiction") false && exmB K (He.ga K "Contradiction") (He.ga K "Contradiction") true && exmB K (He.ga K "EndsShort") (He.ga K "AlreadyEnded") false && exmB K (He.ga K "EndsShort") (He.ga K "EndsShort") true
abbrev hk : PySem.W.Hook := hookY 5 fa fn ts exB
section
variable {w : World} {K : PySem.W.Frag} {h : Heap} {mg : Str → Option Value}
theorem fs_of (X : K.In h) (G : h.Ns mainGlobals mg) (c : He.SaysX fa fn ts [] exB w h K) : ∃ T : Fs PySem.Challenge.rw_saidearly_k14_lanes_refuse.prog w K mg, T.f_law = He.ga K "law" := by
  have cd := c.t.d
  have more := c.more
  obtain ⟨dd_runs_without, F_runs_without⟩ := cd.def_ 0 (d := dD_runs_without) rfl
  obtain ⟨dd_Lane___init__, F_Lane___init__⟩ := cd.def_ 1 (d := dD_Lane___init__) rfl
  obtain ⟨dd_Lane___eq__, F_Lane___eq__⟩ := cd.def_ 2 (d := dD_Lane___eq__) rfl
  obtain ⟨dd_Lane_receive__X, F_Lane_receive__X⟩ := cd.def_ 3 (d := dD_Lane_receive__X) rfl
  obtain ⟨dd_Lane_close__X, F_Lane_close__X⟩ := cd.def_ 4 (d := dD_Lane_close__X) rfl
  obtain ⟨dd_Lane_head, F_Lane_head⟩ := cd.def_ 5 (d := dD_Lane_head) rfl
  obtain ⟨dd_Lane_told_length, F_Lane_told_length⟩ := cd.def_ 6 (d := dD_Lane_told_length) rfl
  obtain ⟨dd_Lane_known, F_Lane_known⟩ := cd.def_ 7 (d := dD_Lane_known) rfl
  obtain ⟨dd_Lane_gaps, F_Lane_gaps⟩ := cd.def_ 8 (d := dD_Lane_gaps) rfl
  obtain ⟨dd_Lane_is_whole, F_Lane_is_whole⟩ := cd.def_ 9 (d := dD_Lane_is_whole) rfl
  obtain ⟨dd_Lane_twin, F_Lane_twin⟩ := cd.def_ 10 (d := dD_Lane_twin) rfl
  obtain ⟨dd__law_bag, F__law_bag⟩ := cd.def_ 11 (d := dD__law_bag) rfl
  obtain ⟨dd__law_take, F__law_take⟩ := cd.def_ 12 (d := dD__law_take) rfl
  obtain ⟨dd__law_one, F__law_one⟩ := cd.def_ 13 (d := dD__law_one) rfl
  obtain ⟨dd__law_mixed, F__law_mixed⟩ := cd.def_ 14 (d := dD__law_mixed) rfl
  obtain ⟨dd__law_alphabet, F__law_alphabet⟩ := cd.def_ 15 (d := dD__law_alphabet) rfl
  obtain ⟨dd__law_full, F__law_full⟩ := cd.def_ 16 (d := dD__law_full) rfl
  obtain ⟨dd__law_alike, F__law_alike⟩ := cd.def_ 17 (d := dD__law_alike) rfl
  obtain ⟨dd__law_gaps, F__law_gaps⟩ := cd.def_ 18 (d := dD__law_gaps) rfl
  obtain ⟨dd__law_head, F__law_head⟩ := cd.def_ 19 (d := dD__law_head) rfl
  obtain ⟨dd__law_right, F__law_right⟩ := cd.def_ 20 (d := dD__law_right) rfl
  obtain ⟨dd__law_received, F__law_received⟩ := cd.def_ 21 (d := dD__law_received) rfl
  obtain ⟨dd__law_closed, F__law_closed⟩ := cd.def_ 22 (d := dD__law_closed) rfl
  obtain ⟨dd__law_piece_due, F__law_piece_due⟩ := cd.def_ 23 (d := dD__law_piece_due) rfl
  obtain ⟨dd__law_length_due, F__law_length_due⟩ := cd.def_ 24 (d := dD__law_length_due) rfl
  obtain ⟨dd__law_piece, F__law_piece⟩ := cd.def_ 25 (d := dD__law_piece) rfl
  obtain ⟨dd__law_step, F__law_step⟩ := cd.def_ 26 (d := dD__law_step) rfl
  obtain ⟨dd_law, F_law⟩ := cd.def_ 27 (d := dD_law) rfl
  exact ⟨⟨⟨He.ga K "Book", He.ga K "Comparer", He.ga K "Watch", He.ga K "GainTable", He.ga K "GameTable", He.ga K "Lane", He.ga K "Machine", He.ga K "Nearest", He.ga K "Prices", He.ga K "Rulebook", He.ga K "Sender", He.ga K "Speaker", He.ga K "Standing", He.ga K "Writer", He.ga K "Tails", He.ga K "Teasing", He.ga K "VersusTable", He.ga K "WaitTable", He.ga K "TURNED", He.ga K "WORD_OF", He.ga K "WORDS", He.ga K "STEP_OF", He.ga K "AlreadyEnded", He.ga K "BadArrow", He.ga K "BadLine", He.ga K "BadRule", He.ga K "BeyondEnd", He.ga K "Broken", He.ga K "Contradiction", He.ga K "DoesNotFit", He.ga K "Ended", He.ga K "EndsShort", He.ga K "Finished", He.ga K "KeepNotShown", He.ga K "NeedsNoPromise", He.ga K "NoDeed", He.ga K "NoElder", He.ga K "NoRule", He.ga K "NoSaying", He.ga K "NoStand", He.ga K "NoSuchLetter", He.ga K "NoTick", He.ga K "NoWait", He.ga K "NotARing", He.ga K "NotAScript", He.ga K "NotAWalk", He.ga K "NotClaimed", He.ga K "NotComparable", He.ga K "NotHeights", He.ga K "NotLet", He.ga K "NotOnRim", He.ga K "NotSent", He.ga K "NotWhole", He.ga K "Nothing", He.ga K "Stopped", He.ga K "TooMany", He.ga K "UnderLag", He.ga K "UnderTotal", He.ga K "Unsettled", He.ga K "Wrong"⟩, He.fAd K ("runs_without", none), dd_runs_without, F_runs_without, He.glo_ok X G (cd.fact 0 (f := .glo "runs_without") rfl), He.fAd K ("Lane", some "__init__"), dd_Lane___init__, F_Lane___init__, He.mkr_ok (cd.fact 1 (f := .mkr "Lane") rfl), isiOkB_ok (He.ba (He.ba (He.ba (He.ba (He.ba (He.ba (He.ba (He.ba (He.ba (He.ba (He.ba (He.ba (He.ba more).1).1).1).1).1).1).1).1).1).1).1).1).2, He.fAd K ("Lane", some "__eq__"), dd_Lane___eq__, F_Lane___eq__, He.meth_ok (cd.fact 2 (f := .meth "Lane" "__eq__") rfl), He.fAd K ("Lane", some "receive"), dd_Lane_receive__X, F_Lane_receive__X, He.meth_ok (cd.fact 3 (f := .meth "Lane" "receive") rfl), He.fAd K ("Lane", some "close"), dd_Lane_close__X, F_Lane_close__X, He.meth_ok (cd.fact 4 (f := .meth "Lane" "close") rfl), He.fAd K ("Lane", some "head"), dd_Lane_head, F_Lane_head, He.meth_ok (cd.fact 5 (f := .meth "Lane" "head") rfl), He.fAd K ("Lane", some "told_length"), dd_Lane_told_length, F_Lane_told_length, He.meth_ok (cd.fact 6 (f := .meth "Lane" "told_length") rfl), He.fAd K ("Lane", some "known"), dd_Lane_known, F_Lane_known, He.meth_ok (cd.fact 7 (f := .meth "Lane" "known") rfl), He.fAd K ("Lane", some "gaps"), dd_Lane_gaps, F_Lane_gaps, He.meth_ok (cd.fact 8 (f := .meth "Lane" "gaps") rfl), He.fAd K ("Lane", some "is_whole"), dd_Lane_is_whole, F_Lane_is_whole, He.meth_ok (cd.fact 9 (f := .meth "Lane" "is_whole") rfl), He.fAd K ("Lane", some "twin"), dd_Lane_twin, F_Lane_twin, He.meth_ok (cd.fact 10 (f := .meth "Lane" "twin") rfl), He.fAd K ("_law_bag", none), dd__law_bag, F__law_bag, He.glo_ok X G (cd.fact 11 (f := .glo "_law_bag") rfl), He.fAd K ("_law_take", none), dd__law_take, F__law_take, He.glo_ok X G (cd.fact 12 (f := .glo "_law_take") rfl), He.fAd K ("_law_one", none), dd__law_one, F__law_one, He.glo_ok X G (cd.fact 13 (f := .glo "_law_one") rfl), He.fAd K ("_law_mixed", none), dd__law_mixed, F__law_mixed, He.glo_ok X G (cd.fact 14 (f := .glo "_law_mixed") rfl), He.fAd K ("_law_alphabet", none), dd__law_alphabet, F__law_alphabet, He.glo_ok X G (cd.fact 15 (f := .glo "_law_alphabet") rfl), He.fAd K ("_law_full", none), dd__law_full, F__law_full, He.glo_ok X G (cd.fact 16 (f := .glo "_law_full") rfl), He.fAd K ("_law_alike", none), dd__law_alike, F__law_alike, He.glo_ok X G (cd.fact 17 (f := .glo "_law_alike") rfl), He.fAd K ("_law_gaps", none), dd__law_gaps, F__law_gaps, He.glo_ok X G (cd.fact 18 (f := .glo "_law_gaps") rfl), He.fAd K ("_law_head", none), dd__law_head, F__law_head, He.glo_ok X G (cd.fact 19 (f := .glo "_law_head") rfl), He.fAd K ("_law_right", none), dd__law_right, F__law_right, He.glo_ok X G (cd.fact 20 (f := .glo "_law_right") rfl), He.fAd K ("_law_received", none), dd__law_received, F__law_received, He.glo_ok X G (cd.fact 21 (f := .glo "_law_received") rfl), He.fAd K ("_law_closed", none), dd__law_closed, F__law_closed, He.glo_ok X G (cd.fact 22 (f := .glo "_law_closed") rfl), He.fAd K ("_law_piece_due", none), dd__law_piece_due, F__law_piece_due, He.glo_ok X G (cd.fact 23 (f := .glo "_law_piece_due") rfl), He.fAd K ("_law_length_due", none), dd__law_length_due, F__law_length_due, He.glo_ok X G (cd.fact 24 (f := .glo "_law_length_due") rfl), He.fAd K ("_law_piece", none), dd__law_piece, F__law_piece, He.glo_ok X G (cd.fact 25 (f := .glo "_law_piece") rfl), He.fAd K ("_law_step", none), dd__law_step, F__law_step, He.glo_ok X G (cd.fact 26 (f := .glo "_law_step") rfl), He.fAd K ("law", none), dd_law, F_law, He.glo_ok X G (cd.fact 27 (f := .glo "law") rfl), He.glo_ok X G (cd.fact 28 (f := .glo "Lane") rfl), sclsB_ok (He.ba (He.ba (He.ba (He.ba (He.ba (He.ba (He.ba (He.ba (He.ba (He.ba (He.ba (He.ba (He.ba (He.ba (He.ba more).1).1).1).1).1).1).1).1).1).1).1).1).1).1).1, slotB_ok (He.ba (He.ba (He.ba (He.ba (He.ba (He.ba (He.ba (He.ba (He.ba (He.ba (He.ba (He.ba (He.ba (He.ba (He.ba more).1).1).1).1).1).1).1).1).1).1).1).1).1).1).2, slotB_ok (He.ba (He.ba (He.ba (He.ba (He.ba (He.ba (He.ba (He.ba (He.ba (He.ba (He.ba (He.ba (He.ba (He.ba more).1).1).1).1).1).1).1).1).1).1).1).1).1).2, isiCB_ok (He.ba (He.ba (He.ba (He.ba (He.ba (He.ba (He.ba (He.ba (He.ba (He.ba (He.ba (He.ba more).1).1).1).1).1).1).1).1).1).1).1).2, eqCB_ok (He.ba (He.ba (He.ba (He.ba (He.ba (He.ba (He.ba (He.ba (He.ba (He.ba (He.ba more).1).1).1).1).1).1).1).1).1).1).2, He.glo_ok X G (cd.fact 29 (f := .glo "AlreadyEnded") rfl), excB_ok (He.ba (He.ba (He.ba (He.ba (He.ba (He.ba (He.ba (He.ba (He.ba (He.ba more).1).1).1).1).1).1).1).1).1).2, He.glo_ok X G (cd.fact 30 (f := .glo "BeyondEnd") rfl), excB_ok (He.ba (He.ba (He.ba (He.ba (He.ba (He.ba (He.ba (He.ba (He.ba more).1).1).1).1).1).1).1).1).2, He.glo_ok X G (cd.fact 31 (f := .glo "Contradiction") rfl), excB_ok (He.ba (He.ba (He.ba (He.ba (He.ba (He.ba (He.ba (He.ba more).1).1).1).1).1).1).1).2, He.glo_ok X G (cd.fact 32 (f := .glo "EndsShort") rfl), excB_ok (He.ba (He.ba (He.ba (He.ba (He.ba (He.ba (He.ba more).1).1).1).1).1).1).2, exmB_ok (He.ba (He.ba (He.ba (He.ba (He.ba (He.ba more).1).1).1).1).1).2, exmB_ok (He.ba (He.ba (He.ba (He.ba (He.ba more).1).1).1).1).2, exmB_ok (He.ba (He.ba (He.ba (He.ba more).1).1).1).2, exmB_ok (He.ba (He.ba (He.ba more).1).1).2, exmB_ok (He.ba (He.ba more).1).2, exmB_ok (He.ba more).2, He.free_ok X G (cd.fact 33 (f := .free "abs") rfl), He.free_ok X G (cd.fact 34 (f := .free "dict") rfl), He.free_ok X G (cd.fact 35 (f := .free "enumerate") rfl), He.free_ok X G (cd.fact 36 (f := .free "int") rfl), He.free_ok X G (cd.fact 37 (f := .free "isinstance") rfl), He.free_ok X G (cd.fact 38 (f := .free "len") rfl), He.free_ok X G (cd.fact 39 (f := .free "max") rfl), He.free_ok X G (cd.fact 40 (f := .free "min") rfl), He.free_ok X G (cd.fact 41 (f := .free "range") rfl), He.free_ok X G (cd.fact 42 (f := .free "repr") rfl), He.free_ok X G (cd.fact 43 (f := .free "sorted") rfl), He.free_ok X G (cd.fact 44 (f := .free "tuple") rfl)⟩, rfl⟩
end
end Y
open PySem PySem.W PySem.Calls PyProof.Rows
theorem PySem.Challenge.cw_saidearly_k14_lanes_refuse_holds : PySem.Challenge.rw_saidearly_k14_lanes_refuse.Holds := by
  w_on; o_law
  o_head (Y.hk)
  case hw => w_witness2
  case hc =>
    refine Y.walkG (l := PySem.Challenge.rw_saidearly_k14_lanes_refuse) (n := 63) (k := 5) (x := "_law_script") rfl (by decide) (by kernel_rfl) ⟨rfl, by decide, by decide⟩ ?F
    intro w mg fa h Y G hmg0
    obtain ⟨K, KX, c⟩ := Y
    have hmg : mg ("law" : PySem.Str) = some (.ref fa) := by
      have e : (HandSHeadRun.topDef (OpenLaw.row PySem.Challenge.rw_saidearly_k14_lanes_refuse).prog 26).name = ("law" : PySem.Str) := by kernel_rfl
      rw [← e]
      exact hmg0
    obtain ⟨T, eT⟩ := Y.fs_of KX G c
    have e := T.g_law.symm.trans hmg
    have e2 : T.f_law = fa := by injection e with e; injection e
    subst e2
    have b := L2.FunD.bindsA (ps := ["_law_script"]) T.F_law fun _ _ _ _ _ _ us hl => match us, hl with | [_], _ => rfl
    exact ⟨K, T.d_law, KX, fun s u => b s [u] rfl, fun base _ _ => Y.ok_law T⟩

